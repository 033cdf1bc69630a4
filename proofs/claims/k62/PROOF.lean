import PyProof.Rows.All
import Wide.All
import OpenK.AllK
import Wide.FinOn
import HandS.ForMost
import HandS.Exc
import HandS.ExcOwn
import HandS.CallSlots
import HandS.WordsExc
import HandS.IsInst
import HandS.Walk
import HandS.TupMul
import HandS.Flow
import KE.GoesZip
import KE.GoesMore
import HandS.EndBits
import HandS.TupLe
import HandS.TryOnly
import HandS.ExcIs
import HandS.Dict
import HandS.Conv
import KE.KDictCopyH
import HandS.Defaults
import PySem.Challenge.RW_steadyhand_k62_most_in_boxes
set_option Elab.async false
set_option linter.all false
set_option maxRecDepth 100000
set_option maxHeartbeats 2000000
/-! The D-layer, part 1: trees of values, how they lie in the abstract heap, environments of trees. -/
namespace Dl
/-- a fork that a reading stops at while its test is open -/
def ifP (b : Bool) (A B : Prop) : Prop := match b with
  | true => A
  | false => B
theorem ifP_t (A B : Prop) : ifP true A B = A := rfl
theorem ifP_f (A B : Prop) : ifP false A B = B := rfl
theorem ifP_of {b : Bool} {A B : Prop} (h1 : b = true → A) (h2 : b = false → B) : ifP b A B := by
  cases b
  · exact h2 rfl
  · exact h1 rfl
open PySem PySem.Spec
open PyProof.Rows L2

/-- a value as a tree; frl: a list that nobody writes (the script) -/
inductive D where
  | non | bl (b : Bool) | int (i : Int) | str (x : Str) | ty (n : String) | cls (C : Addr)
  | tup (ds : List D) | lst (ds : List D) | frl (ds : List D) | ins (C : Addr) (fs : List (Str × D)) | dic (kvs : List (Key × D))
  | ob (v : V)

mutual
/-- how a tree lies in an abstract heap -/
inductive Rep (K : PySem.W.Frag) (H : Hp) : D → V → Prop
  | non : Rep K H .non .non
  | bl (b : Bool) : Rep K H (.bl b) (.bl b)
  | int (i : Int) : Rep K H (.int i) (.int i)
  | str (x : Str) : Rep K H (.str x) (.str x)
  | ty (n : String) : Rep K H (.ty n) (.ty n)
  | cls (C : Addr) : Rep K H (.cls C) (.ref C)
  | ob (v : V) : Rep K H (.ob v) v
  | tup {a : Addr} {vs : List V} {ds : List D} : H a = some (.tup vs) → vs.length ≤ sizeLine → Reps K H ds vs → Rep K H (.tup ds) (.ref a)
  | lst {a : Addr} {vs : List V} {ds : List D} : H a = some (.lst vs) → vs.length ≤ sizeLine → Reps K H ds vs → Rep K H (.lst ds) (.ref a)
  | frl {a : Addr} {vs : List V} {ds : List D} : SqL K H a vs → vs.length ≤ sizeLine → Reps K H ds vs → Rep K H (.frl ds) (.ref a)
  | ins {a C dx : Addr} {fvs : List (Str × V)} {fs : List (Str × D)} : H a = some (.ins C dx fvs) → RepF K H fs fvs → Rep K H (.ins C fs) (.ref a)
  | dic {a : Addr} {kvs : List (Key × V)} {ds : List (Key × D)} : H a = some (.dK kvs) → RepK K H ds kvs → Rep K H (.dic ds) (.ref a)
inductive Reps (K : PySem.W.Frag) (H : Hp) : List D → List V → Prop
  | nil : Reps K H [] []
  | cons {d : D} {v : V} {ds : List D} {vs : List V} : Rep K H d v → Reps K H ds vs → Reps K H (d :: ds) (v :: vs)
inductive RepF (K : PySem.W.Frag) (H : Hp) : List (Str × D) → List (Str × V) → Prop
  | nil : RepF K H [] []
  | cons {f : Str} {d : D} {v : V} {ds : List (Str × D)} {vs : List (Str × V)} : Rep K H d v → RepF K H ds vs → RepF K H ((f, d) :: ds) ((f, v) :: vs)
inductive RepK (K : PySem.W.Frag) (H : Hp) : List (Key × D) → List (Key × V) → Prop
  | nil : RepK K H [] []
  | cons {f : Key} {d : D} {v : V} {ds : List (Key × D)} {vs : List (Key × V)} : Rep K H d v → RepK K H ds vs → RepK K H ((f, d) :: ds) ((f, v) :: vs)
end

theorem same_seqT {K : PySem.W.Frag} {H H' : Hp} {a : Addr} {xs : List V} (e : Same H H') (h : SqT K H a xs) : SqT K H' a xs :=
  h.elim (fun q => .inl (q.elim (fun z => .inl (e _ _ z)) fun ⟨o, z⟩ => .inr ⟨o, e _ _ z⟩)) .inr
theorem same_seqL {K : PySem.W.Frag} {H H' : Hp} {a : Addr} {xs : List V} (e : Same H H') (h : SqL K H a xs) : SqL K H' a xs :=
  h.elim (fun q => .inl (q.elim (fun z => .inl (e _ _ z)) fun ⟨o, z⟩ => .inr ⟨o, e _ _ z⟩)) .inr
section
variable {K : PySem.W.Frag} {H H' : Hp}
mutual
theorem Rep.mono (e : Same H H') : ∀ {d : D} {v : V}, Rep K H d v → Rep K H' d v
  | _, _, .non => .non
  | _, _, .bl b => .bl b
  | _, _, .int i => .int i
  | _, _, .str x => .str x
  | _, _, .ty n => .ty n
  | _, _, .cls C => .cls C
  | _, _, .ob v => .ob v
  | _, _, .tup s l r => .tup (e _ _ s) l (Reps.mono e r)
  | _, _, .lst s l r => .lst (e _ _ s) l (Reps.mono e r)
  | _, _, .frl s l r => .frl (same_seqL e s) l (Reps.mono e r)
  | _, _, .ins s r => .ins (e _ _ s) (RepF.mono e r)
  | _, _, .dic s r => .dic (e _ _ s) (RepK.mono e r)
theorem Reps.mono (e : Same H H') : ∀ {d : List D} {v : List V}, Reps K H d v → Reps K H' d v
  | _, _, .nil => .nil
  | _, _, .cons r s => .cons (Rep.mono e r) (Reps.mono e s)
theorem RepF.mono (e : Same H H') : ∀ {d : List (Str × D)} {v : List (Str × V)}, RepF K H d v → RepF K H' d v
  | _, _, .nil => .nil
  | _, _, .cons r s => .cons (Rep.mono e r) (RepF.mono e s)
theorem RepK.mono (e : Same H H') : ∀ {d : List (Key × D)} {v : List (Key × V)}, RepK K H d v → RepK K H' d v
  | _, _, .nil => .nil
  | _, _, .cons r s => .cons (Rep.mono e r) (RepK.mono e s)
end
theorem Reps.length : ∀ {ds : List D} {vs : List V}, Reps K H ds vs → vs.length = ds.length
  | _, _, .nil => rfl
  | _, _, .cons _ s => congrArg (· + 1) (Reps.length s)
theorem Reps.get : ∀ {ds : List D} {vs : List V} {i : Nat} {d : D}, Reps K H ds vs → ds[i]? = some d → ∃ v, vs[i]? = some v ∧ Rep K H d v
  | _, _, _, _, .nil, e => by simp at e
  | _, _, 0, _, .cons r _, e => by simp at e; subst e; exact ⟨_, rfl, r⟩
  | _, _, i + 1, d, .cons _ s, e => by
    obtain ⟨v, h1, h2⟩ := Reps.get (i := i) (d := d) s (by simpa using e)
    exact ⟨v, by simpa using h1, h2⟩
theorem Reps.get' : ∀ {ds : List D} {vs : List V} {i : Nat} {v : V}, Reps K H ds vs → vs[i]? = some v → ∃ d, ds[i]? = some d ∧ Rep K H d v
  | _, _, _, _, .nil, e => by simp at e
  | _, _, 0, _, .cons r _, e => by simp at e; subst e; exact ⟨_, rfl, r⟩
  | _, _, i + 1, d, .cons _ s, e => by
    obtain ⟨v, h1, h2⟩ := Reps.get' (i := i) (v := d) s (by simpa using e)
    exact ⟨v, by simpa using h1, h2⟩
theorem Reps.append : ∀ {ds es : List D} {vs ws : List V}, Reps K H ds vs → Reps K H es ws → Reps K H (ds ++ es) (vs ++ ws)
  | _, _, _, _, .nil, s => s
  | _, _, _, _, .cons r t, s => .cons r (Reps.append t s)
theorem Reps.take : ∀ {ds : List D} {vs : List V} (n : Nat), Reps K H ds vs → Reps K H (ds.take n) (vs.take n)
  | _, _, 0, _ => by simp only [List.take_zero]; exact .nil
  | _, _, _ + 1, .nil => .nil
  | _, _, n + 1, .cons r t => .cons r (Reps.take n t)
theorem Reps.drop : ∀ {ds : List D} {vs : List V} (n : Nat), Reps K H ds vs → Reps K H (ds.drop n) (vs.drop n)
  | _, _, 0, r => r
  | _, _, _ + 1, .nil => .nil
  | _, _, n + 1, .cons _ t => Reps.drop n t
theorem Reps.set {d : D} {v : V} (r : Rep K H d v) : ∀ {ds : List D} {vs : List V} (i : Nat), Reps K H ds vs → Reps K H (ds.set i d) (vs.set i v)
  | _, _, _, .nil => .nil
  | _, _, 0, .cons _ t => .cons r t
  | _, _, i + 1, .cons q t => .cons q (Reps.set r i t)
theorem Reps.rep {ds : List D} {vs : List V} (h : Reps K H ds vs) : ∀ k : Nat, Reps K H (List.replicate k ds).flatten (List.replicate k vs).flatten
  | 0 => .nil
  | k + 1 => by
    rw [List.replicate_succ, List.replicate_succ, List.flatten_cons, List.flatten_cons]
    exact h.append (Reps.rep h k)
theorem Reps.ints : ∀ {ns : List Int} {vs : List V}, Reps K H (ns.map D.int) vs → vs = ns.map V.int
  | [], _, .nil => rfl
  | n :: ns, _, .cons r s => by
    cases r
    rw [Reps.ints s]
    rfl
theorem Reps.bls : ∀ {ns : List Bool} {vs : List V}, Reps K H (ns.map D.bl) vs → vs = ns.map V.bl
  | [], _, .nil => rfl
  | n :: ns, _, .cons r s => by
    cases r
    rw [Reps.bls s]
    rfl
theorem RepF.look {f : Str} : ∀ {fs : List (Str × D)} {fvs : List (Str × V)} {d : D}, RepF K H fs fvs → fs.lookup f = some d → ∃ v, fvs.lookup f = some v ∧ Rep K H d v
  | _, _, _, .nil, e => by simp at e
  | (g, d0) :: fs, (_, v0) :: fvs, d, .cons r s, e => by
    rw [List.lookup_cons] at e ⊢
    cases hb : f == g with
    | true => rw [hb] at e; cases e; exact ⟨_, rfl, r⟩
    | false => rw [hb] at e; exact RepF.look s e
theorem RepF.none {f : Str} : ∀ {fs : List (Str × D)} {fvs : List (Str × V)}, RepF K H fs fvs → fs.lookup f = none → fvs.lookup f = none
  | _, _, .nil, _ => rfl
  | (g, d0) :: fs, (_, v0) :: fvs, .cons r s, e => by
    rw [List.lookup_cons] at e ⊢
    cases hb : f == g with
    | true => rw [hb] at e; cases e
    | false => rw [hb] at e; exact RepF.none s e
theorem RepF.length : ∀ {ds : List (Str × D)} {vs : List (Str × V)}, RepF K H ds vs → vs.length = ds.length
  | _, _, .nil => rfl
  | _, _, .cons _ s => congrArg (· + 1) (RepF.length s)
end

/-! ### heaps: F what is frozen, H all -/
structure Go (F H F' H' : Hp) : Prop where
  ff : Same F F'
  hh : Same H H'
  fh : Same F' H'
  nn : ∀ p, F p = none → H p ≠ none → F' p = none
theorem Go.refl {F H : Hp} (e : Same F H) : Go F H F H := ⟨Same.refl _, Same.refl _, e, fun _ h _ => h⟩
theorem Go.trans {F H F1 H1 F2 H2 : Hp} (a : Go F H F1 H1) (b : Go F1 H1 F2 H2) : Go F H F2 H2 :=
  ⟨a.ff.trans b.ff, a.hh.trans b.hh, b.fh, fun p h1 h2 => b.nn p (a.nn p h1 h2) fun z => h2 (a.hh.free z)⟩
theorem same_upd {H : Hp} {p : Addr} {o : HO} (h : H p = none) : Same H (upd H p o) := fun b u e => by
  rw [upd_ne (ne_of_none e h)]; exact e
theorem Go.alloc {F H : Hp} {p : Addr} {o : HO} (e : Same F H) (h : H p = none) : Go F H (upd F p o) (upd H p o) := by
  refine ⟨same_upd (e.free h), same_upd h, fun b u q => ?_, fun q h1 h2 => ?_⟩
  · by_cases z : b = p
    · subst z; rw [upd_same] at q ⊢; exact q
    · rw [upd_ne z] at q ⊢; exact e _ _ q
  · rw [upd_ne (fun z => by rw [z] at h2; exact h2 h)]; exact h1

/-! ### environments -/
/-- a name: without a value, a tree (of what is frozen), a list of one's own, an instance that is being made -/
inductive Sl where
  | no | sh (d : D) | ow (ds : List D) | oi (C : Addr × Addr) (fs : List (Str × D)) | od (kvs : List (List Key × D))
abbrev Env' := List Sl
def Sl.own : Sl → Bool
  | .ow _ => true
  | .oi _ _ => true
  | .od _ => true
  | _ => false
/-- a dict's pairs, its keys tuples of ints and texts -/
inductive RepT (K : PySem.W.Frag) (H : Hp) : List (List Key × D) → List (List Key × V) → Prop
  | nil : RepT K H [] []
  | cons {f : List Key} {d : D} {v : V} {ds : List (List Key × D)} {vs : List (List Key × V)} : Rep K H d v → RepT K H ds vs → RepT K H ((f, d) :: ds) ((f, v) :: vs)
theorem RepT.mono {K : PySem.W.Frag} {H H' : Hp} (e : Same H H') : ∀ {ds : List (List Key × D)} {vs : List (List Key × V)}, RepT K H ds vs → RepT K H' ds vs
  | _, _, .nil => .nil
  | _, _, .cons r s => .cons (r.mono e) (RepT.mono e s)
structure Rl (K : PySem.W.Frag) (ρ : Env') (σ : L2.St) (F H : Hp) : Prop where
  len : ρ.length = σ.length
  fh : Same F H
  sh : ∀ (i : Nat) (d : D), ρ[i]? = some (.sh d) → ∃ v, σ[i]? = some (some v) ∧ Rep K F d v
  ow : ∀ (i : Nat) (ds : List D), ρ[i]? = some (.ow ds) → ∃ (p : Addr) (vs : List V), σ[i]? = some (some (.ref p)) ∧ H p = some (.lst vs) ∧ F p = none ∧ vs.length ≤ sizeLine ∧ Reps K F ds vs
  oi : ∀ (i : Nat) (C : Addr × Addr) (fs : List (Str × D)), ρ[i]? = some (.oi C fs) → ∃ (p dx : Addr) (vs : List (Str × V)), σ[i]? = some (some (.ref p)) ∧ H p = some (.ins C.1 dx vs) ∧ F p = none ∧ RepF K F fs vs ∧ p = C.2
  od : ∀ (i : Nat) (kvs : List (List Key × D)), ρ[i]? = some (.od kvs) → ∃ (p : Addr) (vs : List (List Key × V)), σ[i]? = some (some (.ref p)) ∧ H p = some (.dT vs) ∧ F p = none ∧ RepT K F kvs vs
  inj : ∀ (i j : Nat) (s t : Sl) (v : V), ρ[i]? = some s → s.own = true → ρ[j]? = some t → t.own = true → σ[i]? = some (some v) → σ[j]? = some (some v) → i = j
theorem Rl.go {K : PySem.W.Frag} {ρ : Env'} {σ : L2.St} {F H F' H' : Hp} (r : Rl K ρ σ F H) (g : Go F H F' H') : Rl K ρ σ F' H' where
  len := r.len
  fh := g.fh
  sh := fun i d e => let ⟨v, h1, h2⟩ := r.sh i d e; ⟨v, h1, h2.mono g.ff⟩
  ow := fun i ds e => let ⟨p, vs, h1, h2, h3, h4, h5⟩ := r.ow i ds e; ⟨p, vs, h1, g.hh _ _ h2, g.nn p h3 (by rw [h2]; exact fun z => nomatch z), h4, h5.mono g.ff⟩
  oi := fun i C fs e => let ⟨p, dx, vs, h1, h2, h3, h5, h6⟩ := r.oi i C fs e; ⟨p, dx, vs, h1, g.hh _ _ h2, g.nn p h3 (by rw [h2]; exact fun z => nomatch z), h5.mono g.ff, h6⟩
  od := fun i kvs e => let ⟨p, vs, h1, h2, h3, h5⟩ := r.od i kvs e; ⟨p, vs, h1, g.hh _ _ h2, g.nn p h3 (by rw [h2]; exact fun z => nomatch z), h5.mono g.ff⟩
  inj := r.inj
/-- within a def: F0, H0 its entry; what it owns is new -/
structure Ent (K : PySem.W.Frag) (F0 H0 : Hp) (ρ : Env') (σ : L2.St) (F H : Hp) : Prop where
  rl : Rl K ρ σ F H
  go : Go F0 H0 F H
  new : ∀ (i : Nat) (s : Sl) (p : Addr), ρ[i]? = some s → s.own = true → σ[i]? = some (some (.ref p)) → H0 p = none
theorem Ent.step {K : PySem.W.Frag} {F0 H0 : Hp} {ρ : Env'} {σ : L2.St} {F H F' H' : Hp} (r : Ent K F0 H0 ρ σ F H) (g : Go F H F' H') : Ent K F0 H0 ρ σ F' H' :=
  ⟨r.rl.go g, r.go.trans g, r.new⟩

/-- read for a moment: a tree that is frozen, or a list of one's own -/
def Pk (K : PySem.W.Frag) (F H : Hp) (d : D) (v : V) : Prop :=
  Rep K F d v ∨ ∃ (p : Addr) (vs : List V) (ds : List D), d = .lst ds ∧ v = .ref p ∧ H p = some (.lst vs) ∧ vs.length ≤ sizeLine ∧ Reps K F ds vs
theorem Pk.go {K : PySem.W.Frag} {F H F' H' : Hp} {d : D} {v : V} (p : Pk K F H d v) (g : Go F H F' H') : Pk K F' H' d v :=
  p.elim (fun r => .inl (r.mono g.ff)) fun ⟨p, vs, ds, h1, h2, h3, h4, h5⟩ => .inr ⟨p, vs, ds, h1, h2, g.hh _ _ h3, h4, h5.mono g.ff⟩
theorem Pk.rep {K : PySem.W.Frag} {F H : Hp} {d : D} {v : V} (p : Pk K F H d v) (e : Same F H) : Rep K H d v := by
  rcases p with r | ⟨p, vs, ds, rfl, rfl, h3, h4, h5⟩
  · exact r.mono e
  · exact .lst h3 h4 (h5.mono e)
/-- a list's places, a tuple's -/
theorem Pk.lst {K : PySem.W.Frag} {F H : Hp} {ds : List D} {v : V} (p : Pk K F H (.lst ds) v) (e : Same F H) : ∃ (p : Addr) (vs : List V), v = .ref p ∧ H p = some (.lst vs) ∧ vs.length ≤ sizeLine ∧ Reps K F ds vs := by
  rcases p with r | ⟨p, vs, es, q, rfl, h3, h4, h5⟩
  · cases r with
    | lst s l r => exact ⟨_, _, rfl, e _ _ s, l, r⟩
  · cases q; exact ⟨p, vs, rfl, h3, h4, h5⟩
theorem Pk.tup {K : PySem.W.Frag} {F H : Hp} {ds : List D} {v : V} (p : Pk K F H (.tup ds) v) (e : Same F H) : ∃ (p : Addr) (vs : List V), v = .ref p ∧ SqT K H p vs ∧ vs.length ≤ sizeLine ∧ Reps K F ds vs := by
  rcases p with r | ⟨p, vs, es, q, rfl, h3, h4, h5⟩
  · cases r with
    | tup s l r => exact ⟨_, _, rfl, SqT.of (e _ _ s), l, r⟩
  · cases q
theorem Pk.tupH {K : PySem.W.Frag} {F H : Hp} {ds : List D} {v : V} (p : Pk K F H (.tup ds) v) (e : Same F H) : ∃ (p : Addr) (vs : List V), v = .ref p ∧ H p = some (.tup vs) ∧ vs.length ≤ sizeLine ∧ Reps K F ds vs := by
  rcases p with r | ⟨p, vs, es, q, rfl, h3, h4, h5⟩
  · cases r with
    | tup s l r => exact ⟨_, _, rfl, e _ _ s, l, r⟩
  · cases q
theorem Pk.frl {K : PySem.W.Frag} {F H : Hp} {ds : List D} {v : V} (p : Pk K F H (.frl ds) v) (e : Same F H) : ∃ (p : Addr) (vs : List V), v = .ref p ∧ SqL K H p vs ∧ vs.length ≤ sizeLine ∧ Reps K F ds vs := by
  rcases p with r | ⟨p, vs, es, q, rfl, h3, h4, h5⟩
  · cases r with
    | frl s l r => exact ⟨_, _, rfl, same_seqL e s, l, r⟩
  · cases q
theorem Pk.int {K : PySem.W.Frag} {F H : Hp} {i : Int} {v : V} (p : Pk K F H (.int i) v) : v = .int i := by
  rcases p with r | ⟨p, vs, es, q, rfl, h3, h4, h5⟩
  · cases r; rfl
  · cases q
theorem Pk.bl {K : PySem.W.Frag} {F H : Hp} {i : Bool} {v : V} (p : Pk K F H (.bl i) v) : v = .bl i := by
  rcases p with r | ⟨p, vs, es, q, rfl, h3, h4, h5⟩
  · cases r; rfl
  · cases q
theorem Pk.str {K : PySem.W.Frag} {F H : Hp} {i : Str} {v : V} (p : Pk K F H (.str i) v) : v = .str i := by
  rcases p with r | ⟨p, vs, es, q, rfl, h3, h4, h5⟩
  · cases r; rfl
  · cases q
/-- how an exception lies: an instance of its class -/
inductive XRep (K : PySem.W.Frag) (F H : Hp) : D → Value → Option Addr → Prop
  | bare (C : Addr) : XRep K F H (.ins C []) (.ref C) none
  | full {C dx : Addr} {fvs : List (Str × V)} {fs : List (Str × D)} : fs ≠ [] → H dx = some (.xd fvs) → RepF K F fs fvs → XRep K F H (.ins C fs) (.ref C) (some dx)

/-! ### what a tree is worth as data, for == -/
mutual
def D.py : D → PyData
  | .non => .none
  | .bl b => .bool b
  | .int i => .int i
  | .str x => .str x
  | .tup ds => .tuple (D.pys ds)
  | .lst ds => .list (D.pys ds)
  | .frl ds => .list (D.pys ds)
  | .ty _ => .none
  | .cls _ => .none
  | .ins _ _ => .none
  | .dic _ => .none
  | .ob _ => .none
def D.pys : List D → List PyData
  | [] => []
  | d :: ds => D.py d :: D.pys ds
end
mutual
/-- None, truths, ints, texts, and lists and tuples of these -/
def D.flat : D → Bool
  | .non => true
  | .bl _ => true
  | .int _ => true
  | .str _ => true
  | .tup ds => D.flats ds
  | .lst ds => D.flats ds
  | .frl ds => D.flats ds
  | .ty _ => false
  | .cls _ => false
  | .ins _ _ => false
  | .dic _ => false
  | .ob _ => false
def D.flats : List D → Bool
  | [] => true
  | d :: ds => D.flat d && D.flats ds
end
mutual
theorem Rep.dp {K : PySem.W.Frag} {H : Hp} : ∀ {d : D} {v : V}, Rep K H d v → d.flat = true → Dp K H v d.py
  | _, _, .non, _ => by unfold D.py; exact .non
  | _, _, .bl b, _ => by unfold D.py; exact .bl b
  | _, _, .int i, _ => by unfold D.py; exact .int i
  | _, _, .str x, _ => by unfold D.py; exact .str x
  | _, _, .tup s l r, h => by unfold D.py; unfold D.flat at h; exact .tup (SqT.of s) (Reps.dp r h)
  | _, _, .lst s l r, h => by unfold D.py; unfold D.flat at h; exact .lst (SqL.of s) (Reps.dp r h)
  | _, _, .frl s l r, h => by unfold D.py; unfold D.flat at h; exact .lst s (Reps.dp r h)
  | _, _, .ty n, h => by unfold D.flat at h; cases h
  | _, _, .cls n, h => by unfold D.flat at h; cases h
  | _, _, .ins s r, h => by unfold D.flat at h; cases h
  | _, _, .dic s r, h => by unfold D.flat at h; cases h
  | _, _, .ob v, h => by unfold D.flat at h; cases h
theorem Reps.dp {K : PySem.W.Frag} {H : Hp} : ∀ {d : List D} {v : List V}, Reps K H d v → D.flats d = true → DpAll K H v (D.pys d)
  | _, _, .nil, _ => by unfold D.pys; exact .nil
  | _, _, .cons r s, h => by
    unfold D.pys; unfold D.flats at h; rw [Bool.and_eq_true] at h
    exact .cons (Rep.dp r h.1) (Reps.dp s h.2)
end
end Dl

/-! The D-layer, part 2: expressions. A reading takes the names' trees, what is wanted of the value, what is wanted of an exception. -/
namespace Dl
open PySem PySem.Spec
open PyProof.Rows L2
abbrev EQ := D → Prop
abbrev TD := Env' → EQ → EQ → Prop
abbrev TDs := Env' → (List D → Prop) → EQ → Prop
abbrev TDb := Env' → (Bool → Prop) → EQ → Prop
/-- what is wanted of an exception, met at these names and heaps -/
def XP (K : PySem.W.Frag) (W : WX) (σ : L2.St) (F H : Hp) (E : EQ) : Prop :=
  ∀ (x : D) (cls : Value) (dx : Option Addr) (F' H' : Hp), Go F H F' H' → XRep K F' H' x cls dx → E x → W cls dx σ H'
theorem XP.go {K : PySem.W.Frag} {W : WX} {σ : L2.St} {F H F1 H1 : Hp} {E : EQ} (h : XP K W σ F H E) (g : Go F H F1 H1) : XP K W σ F1 H1 E :=
  fun x cls dx F' H' g' r e => h x cls dx F' H' (g.trans g') r e
/-- an expression -/
structure RE (X : Cx) (W : WX) (e : Expr) (t : TD) : Prop where
  run : ∃ te, PE X e te ∧ ∀ (ρ : Env') (σ : L2.St) (F H : Hp) (Qd E : EQ) (Q : VK), Rl X.K ρ σ F H → XP X.K W σ F H E →
    (∀ d v F' H', Go F H F' H' → Rep X.K F' d v → Qd d → Q v H') → t ρ Qd E → te σ H Q
/-- an expression that is read for a moment -/
structure RP (X : Cx) (W : WX) (e : Expr) (t : TD) : Prop where
  run : ∃ te, PE X e te ∧ ∀ (ρ : Env') (σ : L2.St) (F H : Hp) (Qd E : EQ) (Q : VK), Rl X.K ρ σ F H → XP X.K W σ F H E →
    (∀ d v F' H', Go F H F' H' → Pk X.K F' H' d v → Qd d → Q v H') → t ρ Qd E → te σ H Q
/-- arguments -/
structure RA (X : Cx) (W : WX) (es : List Expr) (t : TDs) : Prop where
  run : ∃ ta, PA X es ta ∧ ∀ (ρ : Env') (σ : L2.St) (F H : Hp) (Qd : List D → Prop) (E : EQ) (Q : List V → Hp → Prop), Rl X.K ρ σ F H → XP X.K W σ F H E →
    (∀ ds vs F' H', Go F H F' H' → Reps X.K F' ds vs → Qd ds → Q vs H') → t ρ Qd E → ta σ H Q
inductive Pks (K : PySem.W.Frag) (F H : Hp) : List D → List V → Prop
  | nil : Pks K F H [] []
  | cons {d : D} {v : V} {ds : List D} {vs : List V} : Pk K F H d v → Pks K F H ds vs → Pks K F H (d :: ds) (v :: vs)
theorem Pks.go {K : PySem.W.Frag} {F H F' H' : Hp} (g : Go F H F' H') : ∀ {ds : List D} {vs : List V}, Pks K F H ds vs → Pks K F' H' ds vs
  | _, _, .nil => .nil
  | _, _, .cons p q => .cons (p.go g) (Pks.go g q)
/-- arguments that are read for a moment -/
structure RPA (X : Cx) (W : WX) (es : List Expr) (t : TDs) : Prop where
  run : ∃ ta, PA X es ta ∧ ∀ (ρ : Env') (σ : L2.St) (F H : Hp) (Qd : List D → Prop) (E : EQ) (Q : List V → Hp → Prop), Rl X.K ρ σ F H → XP X.K W σ F H E →
    (∀ ds vs F' H', Go F H F' H' → Pks X.K F' H' ds vs → Qd ds → Q vs H') → t ρ Qd E → ta σ H Q
/-- tests -/
structure RT (X : Cx) (W : WX) (e : Expr) (t : TDb) : Prop where
  run : ∃ tt, PT X e tt ∧ ∀ (ρ : Env') (σ : L2.St) (F H : Hp) (Qd : Bool → Prop) (E : EQ) (Q : Bool → Hp → Prop), Rl X.K ρ σ F H → XP X.K W σ F H E →
    (∀ b F' H', Go F H F' H' → Qd b → Q b H') → t ρ Qd E → tt σ H Q
structure RW (X : Cx) (W : WX) (e : Expr) (t : TDb) : Prop where
  run : ∃ tt, PW X e tt ∧ ∀ (ρ : Env') (σ : L2.St) (F H : Hp) (Qd : Bool → Prop) (E : EQ) (Q : Bool → Hp → Prop), Rl X.K ρ σ F H → XP X.K W σ F H E →
    (∀ b F' H', Go F H F' H' → Qd b → Q b H') → t ρ Qd E → tt σ H Q
section
variable {X : Cx} {W : WX} {e a b c : Expr} {es : List Expr} {t ta tb tc : TD} {ts : TDs} {pos : Pos}
theorem RE.p (h : RE X W e t) : RP X W e t := by
  obtain ⟨te, h1, h2⟩ := h.run
  exact ⟨te, h1, fun ρ σ F H Qd E Q r x k q => h2 ρ σ F H Qd E Q r x (fun d v F' H' g rp qd => k d v F' H' g (.inl rp) qd) q⟩
/-! ### names and constants -/
def dVar (i : Nat) : TD := fun ρ Q _ => match ρ[i]? with
  | some (.sh d) => Q d
  | _ => False
def dVarP (i : Nat) : TD := fun ρ Q _ => match ρ[i]? with
  | some (.sh d) => Q d
  | some (.ow ds) => Q (.lst ds)
  | _ => False
def dC (d : D) : TD := fun _ Q _ => Q d
theorem re_var (i : Nat) {x : Str} (hN : X.N[i]? = some x := by rfl) (hv : Vis X.env.scope x := by first | exact Or.inl rfl | exact Or.inr (Or.inl rfl) | exact Or.inr (Or.inr rfl)) (hd : (x == ("__debug__" : Str)) = false := by decide) (hcd : (x == ("__classdict__" : Str)) = false := by decide) : RE X W (.Name x pos) (dVar i) := by
  refine ⟨tVar i, pe_var hN hv hd hcd, fun ρ σ F H Qd E Q r xp k q => ?_⟩
  unfold dVar at q
  split at q
  · rename_i d e
    obtain ⟨v, h1, h2⟩ := r.sh i d e
    exact ⟨v, h1, k d v F H (.refl r.fh) h2 q⟩
  · exact q.elim
theorem rp_var (i : Nat) {x : Str} (hN : X.N[i]? = some x := by rfl) (hv : Vis X.env.scope x := by first | exact Or.inl rfl | exact Or.inr (Or.inl rfl) | exact Or.inr (Or.inr rfl)) (hd : (x == ("__debug__" : Str)) = false := by decide) (hcd : (x == ("__classdict__" : Str)) = false := by decide) : RP X W (.Name x pos) (dVarP i) := by
  refine ⟨tVar i, pe_var hN hv hd hcd, fun ρ σ F H Qd E Q r xp k q => ?_⟩
  unfold dVarP at q
  split at q
  · rename_i d e
    obtain ⟨v, h1, h2⟩ := r.sh i d e
    exact ⟨v, h1, k d v F H (.refl r.fh) (.inl h2) q⟩
  · rename_i ds e
    obtain ⟨p, vs, h1, h2, h3, h4, h5⟩ := r.ow i ds e
    exact ⟨_, h1, k _ _ F H (.refl r.fh) (.inr ⟨p, vs, ds, rfl, rfl, h2, h4, h5⟩) q⟩
  · exact q.elim
theorem re_int {i j} : RE X W (.Constant (.int i) j pos) (dC (.int i)) := ⟨_, pe_int, fun ρ σ F H Qd E Q r xp k q => k _ _ F H (.refl r.fh) (.int i) q⟩
theorem re_bl {i j} : RE X W (.Constant (.bool i) j pos) (dC (.bl i)) := ⟨_, pe_bl, fun ρ σ F H Qd E Q r xp k q => k _ _ F H (.refl r.fh) (.bl i) q⟩
theorem re_non {j} : RE X W (.Constant .none j pos) (dC .non) := ⟨_, pe_non, fun ρ σ F H Qd E Q r xp k q => k _ _ F H (.refl r.fh) .non q⟩
theorem re_str {i j} : RE X W (.Constant (.str i) j pos) (dC (.str i)) := ⟨_, pe_str, fun ρ σ F H Qd E Q r xp k q => k _ _ F H (.refl r.fh) (.str i) q⟩
/-- a name of the module: an int, a text, a class -/
def GlobD : D → Value → Prop
  | .int i, u => ∃ t, u = .int i t
  | .str x, u => ∃ t, u = .str x t
  | .cls C, u => u = .ref C
  | .ty n, u => u = .type n
  | _, _ => False
theorem re_glob {x : Str} {d : D} {u : Value} (hm : X.mg x = some u) (r : GlobD d u) (hg : Gl X x := by rfl) (hd : (x == ("__debug__" : Str)) = false := by decide) : RE X W (.Name x pos) (dC d) := by
  cases d with
  | int i => exact ⟨_, pe_glob (v := .int i) hg hm r hd, fun ρ σ F H Qd E Q r xp k q => k _ _ F H (.refl r.fh) (.int i) q⟩
  | str i => exact ⟨_, pe_glob (v := .str i) hg hm r hd, fun ρ σ F H Qd E Q r xp k q => k _ _ F H (.refl r.fh) (.str i) q⟩
  | cls i => exact ⟨_, pe_glob (v := .ref i) hg hm r hd, fun ρ σ F H Qd E Q r xp k q => k _ _ F H (.refl r.fh) (.cls i) q⟩
  | ty i => exact ⟨_, pe_glob (v := .ty i) hg hm r hd, fun ρ σ F H Qd E Q r xp k q => k _ _ F H (.refl r.fh) (.ty i) q⟩
  | _ => exact r.elim
/-- a built-in type as a value -/
theorem re_ty {x : Str} {n : String} (hm : X.mg x = none) (hv : bootBuiltins x = some (.type n)) (hg : Gl X x := by rfl) (hn : x ≠ "__name__" := by decide) (hd : (x == ("__debug__" : Str)) = false := by decide) : RE X W (.Name x pos) (dC (.ty n)) :=
  ⟨_, pe_bltn (v := .ty n) hg hm hv rfl hn hd, fun ρ σ F H Qd E Q r xp k q => k _ _ F H (.refl r.fh) (.ty n) q⟩

/-! ### operators -/
/-- an operator by trees -/
abbrev KD := D → D → EQ → Prop
def OpD (X : Cx) (f : Value → Value → Sem Value) (k : KD) : Prop :=
  ∃ r, OpR X f r ∧ ∀ (x y : D) (vx vy : V) (F H : Hp) (Qd : EQ) (Q : VK), Same F H → Pk X.K F H x vx → Pk X.K F H y vy →
    (∀ d v F' H', Go F H F' H' → Rep X.K F' d v → Qd d → Q v H') → k x y Qd → r vx vy H Q
def dOp (k : KD) (ta tb : TD) : TD := fun ρ Q E => ta ρ (fun x => tb ρ (fun y => k x y Q) E) E
theorem op_core {r : R2} {k : KD} {te1 te2 : TE} {ρ : Env'} {σ : L2.St} {F H : Hp} {Qd E : EQ} {Q : VK}
    (ha : ∀ (ρ : Env') (σ : L2.St) (F H : Hp) (Qd E : EQ) (Q : VK), Rl X.K ρ σ F H → XP X.K W σ F H E → (∀ d v F' H', Go F H F' H' → Pk X.K F' H' d v → Qd d → Q v H') → ta ρ Qd E → te1 σ H Q)
    (hb : ∀ (ρ : Env') (σ : L2.St) (F H : Hp) (Qd E : EQ) (Q : VK), Rl X.K ρ σ F H → XP X.K W σ F H E → (∀ d v F' H', Go F H F' H' → Pk X.K F' H' d v → Qd d → Q v H') → tb ρ Qd E → te2 σ H Q)
    (ho : ∀ (x y : D) (vx vy : V) (F H : Hp) (Qd : EQ) (Q : VK), Same F H → Pk X.K F H x vx → Pk X.K F H y vy → (∀ d v F' H', Go F H F' H' → Rep X.K F' d v → Qd d → Q v H') → k x y Qd → r vx vy H Q)
    (rl : Rl X.K ρ σ F H) (xp : XP X.K W σ F H E) (kk : ∀ d v F' H', Go F H F' H' → Rep X.K F' d v → Qd d → Q v H') (q : dOp k ta tb ρ Qd E) : tOp r te1 te2 σ H Q := by
  refine ha ρ σ F H _ E _ rl xp (fun x vx F1 H1 g1 px q1 => ?_) q
  refine hb ρ σ F1 H1 _ E _ (rl.go g1) (xp.go g1) (fun y vy F2 H2 g2 py q2 => ?_) q1
  exact ho x y vx vy F2 H2 Qd Q g2.fh (px.go g2) py (fun d v F' H' g r qd => kk d v F' H' ((g1.trans g2).trans g) r qd) q2
theorem re_op {op : Operator} {k : KD} (ho : OpD X (binaryOp op) k) (ha : RP X W a ta) (hb : RP X W b tb) : RE X W (.BinOp a op b pos) (dOp k ta tb) := by
  obtain ⟨r, o1, o2⟩ := ho
  obtain ⟨te1, a1, a2⟩ := ha.run
  obtain ⟨te2, b1, b2⟩ := hb.run
  exact ⟨_, pe_op o1 a1 b1, fun ρ σ F H Qd E Q rl xp kk q => op_core a2 b2 o2 rl xp kk q⟩
theorem re_cmp {op : CmpOp} {k : KD} (ho : OpD X (compareOp op) k) (ha : RP X W a ta) (hb : RP X W b tb) (hm : behindInMarks op b = false := by first | exact nomark _ | rfl) : RE X W (.Compare a [op] [b] pos) (dOp k ta tb) := by
  obtain ⟨r, o1, o2⟩ := ho
  obtain ⟨te1, a1, a2⟩ := ha.run
  obtain ⟨te2, b1, b2⟩ := hb.run
  exact ⟨_, pe_cmpR o1 a1 b1 hm, fun ρ σ F H Qd E Q rl xp kk q => op_core a2 b2 o2 rl xp kk q⟩
/-- where a truth is wanted -/
def asB (Q : Bool → Prop) : EQ
  | .bl c => Q c
  | _ => False
def dTest (t : TD) : TDb := fun ρ Q E => t ρ (asB Q) E
theorem asB_inv {Q : Bool → Prop} {d : D} (h : asB Q d) : ∃ c, d = .bl c ∧ Q c := by
  cases d <;> first | exact ⟨_, rfl, h⟩ | exact False.elim h
theorem rt_cmp {op : CmpOp} {k : KD} (ho : OpD X (compareOp op) k) (ha : RP X W a ta) (hb : RP X W b tb) (hm : behindInMarks op b = false := by first | exact nomark _ | rfl) : RT X W (.Compare a [op] [b] pos) (dTest (dOp k ta tb)) := by
  obtain ⟨r, o1, o2⟩ := ho
  obtain ⟨te1, a1, a2⟩ := ha.run
  obtain ⟨te2, b1, b2⟩ := hb.run
  refine ⟨_, pt_cmpR o1 a1 b1 hm, fun ρ σ F H Qd E Q rl xp kk q => op_core a2 b2 o2 rl xp (fun d v F' H' g rp qd => ?_) q⟩
  obtain ⟨c, rfl, qc⟩ := asB_inv qd
  cases rp
  exact ⟨c, rfl, kk c F' H' g qc⟩
/-- a value that is a truth, as a test -/
theorem rt_val (h : RP X W e t) (he : ∀ whole, isTrue e X.env whole = (do let v ← whole; standAt e.pos; holding [v] (truthy v)) := by intro _; rfl) : RT X W e (dTest t) := by
  obtain ⟨te, h1, h2⟩ := h.run
  refine ⟨_, pt_val h1 he, fun ρ σ F H Qd E Q rl xp kk q => h2 ρ σ F H _ E _ rl xp (fun d v F' H' g rp qd => ?_) q⟩
  obtain ⟨c, rfl, qc⟩ := asB_inv qd
  cases rp.bl
  exact ⟨c, rfl, kk c F' H' g qc⟩
def dNot (t : TDb) : TDb := fun ρ Q E => t ρ (fun c => Q (!c)) E
theorem rt_not {t : TDb} (h : RT X W a t) : RT X W (.UnaryOp .Not a pos) (dNot t) := by
  obtain ⟨te, h1, h2⟩ := h.run
  exact ⟨_, pt_not h1, fun ρ σ F H Qd E Q rl xp kk q => h2 ρ σ F H _ E _ rl xp (fun c F' H' g qd => kk _ F' H' g qd) q⟩
variable {tA tB : TDb} {rest : List Expr}
theorem RW.toT {t : TDb} (h : RW X W e t) : RT X W e t := by
  obtain ⟨te, h1, h2⟩ := h.run
  exact ⟨te, h1.pt, h2⟩
def dAnd (t u : TDb) : TDb := fun ρ Q E => t ρ (fun c => ifP c (u ρ Q E) (Q false)) E
def dOr (t u : TDb) : TDb := fun ρ Q E => t ρ (fun c => ifP c (Q true) (u ρ Q E)) E
theorem rw_and1 (h : RT X W a tA) : RW X W (.BoolOp .And [a] pos) tA := by
  obtain ⟨te, h1, h2⟩ := h.run
  exact ⟨te, pw_and1 h1, h2⟩
theorem rw_or1 (h : RT X W a tA) : RW X W (.BoolOp .Or [a] pos) tA := by
  obtain ⟨te, h1, h2⟩ := h.run
  exact ⟨te, pw_or1 h1, h2⟩
theorem rw_and (ha : RT X W a tA) (hb : RW X W (.BoolOp .And (b :: rest) pos) tB) : RW X W (.BoolOp .And (a :: b :: rest) pos) (dAnd tA tB) := by
  obtain ⟨te, h1, h2⟩ := ha.run
  obtain ⟨te', h1', h2'⟩ := hb.run
  refine ⟨_, pw_and h1 h1', fun ρ σ F H Qd E Q rl xp kk q => h2 ρ σ F H _ E _ rl xp (fun c F' H' g qd => ?_) q⟩
  cases c with
  | true => exact h2' ρ σ F' H' Qd E Q (rl.go g) (xp.go g) (fun c F2 H2 g2 q2 => kk c F2 H2 (g.trans g2) q2) qd
  | false => exact kk _ F' H' g qd
theorem rw_or (ha : RT X W a tA) (hb : RW X W (.BoolOp .Or (b :: rest) pos) tB) : RW X W (.BoolOp .Or (a :: b :: rest) pos) (dOr tA tB) := by
  obtain ⟨te, h1, h2⟩ := ha.run
  obtain ⟨te', h1', h2'⟩ := hb.run
  refine ⟨_, pw_or h1 h1', fun ρ σ F H Qd E Q rl xp kk q => h2 ρ σ F H _ E _ rl xp (fun c F' H' g qd => ?_) q⟩
  cases c with
  | false => exact h2' ρ σ F' H' Qd E Q (rl.go g) (xp.go g) (fun c F2 H2 g2 q2 => kk c F2 H2 (g.trans g2) q2) qd
  | true => exact kk _ F' H' g qd
/-- and, or, not as values: all but the last are truths -/
def dAndV (ta tb : TD) : TD := fun ρ Q E => ta ρ (asB fun c => ifP c (tb ρ Q E) (Q (.bl false))) E
def dOrV (ta tb : TD) : TD := fun ρ Q E => ta ρ (asB fun c => ifP c (Q (.bl true)) (tb ρ Q E)) E
def dNotV (ta : TD) : TD := fun ρ Q E => ta ρ (asB fun c => Q (.bl (!c))) E
theorem re_one {op} (h : RE X W a t) : RE X W (.BoolOp op [a] pos) t := by
  obtain ⟨te, h1, h2⟩ := h.run
  exact ⟨te, pe_one h1, h2⟩
theorem re_and (ha : RP X W a ta) (hb : RE X W (.BoolOp .And (b :: rest) pos) tb) : RE X W (.BoolOp .And (a :: b :: rest) pos) (dAndV ta tb) := by
  obtain ⟨te, h1, h2⟩ := ha.run
  obtain ⟨te', h1', h2'⟩ := hb.run
  refine ⟨_, pe_and h1 h1', fun ρ σ F H Qd E Q rl xp kk q => h2 ρ σ F H _ E _ rl xp (fun d v F' H' g rp qd => ?_) q⟩
  obtain ⟨c, rfl, qc⟩ := asB_inv qd
  cases rp.bl
  refine ⟨c, rfl, ?_⟩
  cases c with
  | true => exact h2' ρ σ F' H' Qd E Q (rl.go g) (xp.go g) (fun c v F2 H2 g2 r2 q2 => kk c v F2 H2 (g.trans g2) r2 q2) qc
  | false => exact kk _ _ F' H' g (.bl false) qc
theorem re_or (ha : RP X W a ta) (hb : RE X W (.BoolOp .Or (b :: rest) pos) tb) : RE X W (.BoolOp .Or (a :: b :: rest) pos) (dOrV ta tb) := by
  obtain ⟨te, h1, h2⟩ := ha.run
  obtain ⟨te', h1', h2'⟩ := hb.run
  refine ⟨_, pe_or h1 h1', fun ρ σ F H Qd E Q rl xp kk q => h2 ρ σ F H _ E _ rl xp (fun d v F' H' g rp qd => ?_) q⟩
  obtain ⟨c, rfl, qc⟩ := asB_inv qd
  cases rp.bl
  refine ⟨c, rfl, ?_⟩
  cases c with
  | false => exact h2' ρ σ F' H' Qd E Q (rl.go g) (xp.go g) (fun c v F2 H2 g2 r2 q2 => kk c v F2 H2 (g.trans g2) r2 q2) qc
  | true => exact kk _ _ F' H' g (.bl true) qc
theorem re_not (ha : RP X W a ta) : RE X W (.UnaryOp .Not a pos) (dNotV ta) := by
  obtain ⟨te, h1, h2⟩ := ha.run
  refine ⟨_, pe_not h1, fun ρ σ F H Qd E Q rl xp kk q => h2 ρ σ F H _ E _ rl xp (fun d v F' H' g rp qd => ?_) q⟩
  obtain ⟨c, rfl, qc⟩ := asB_inv qd
  cases rp.bl
  exact ⟨c, rfl, kk _ _ F' H' g (.bl _) qc⟩
def dIfE (t : TDb) (ta tb : TD) : TD := fun ρ Q E => t ρ (fun c => ifP c (ta ρ Q E) (tb ρ Q E)) E
theorem re_ifExp (hc : RT X W c tA) (ha : RE X W a ta) (hb : RE X W b tb) : RE X W (.IfExp c a b pos) (dIfE tA ta tb) := by
  obtain ⟨te, h1, h2⟩ := hc.run
  obtain ⟨te1, a1, a2⟩ := ha.run
  obtain ⟨te2, b1, b2⟩ := hb.run
  refine ⟨_, pe_ifExp h1 a1 b1, fun ρ σ F H Qd E Q rl xp kk q => h2 ρ σ F H _ E _ rl xp (fun c F' H' g qd => ?_) q⟩
  cases c with
  | true => exact a2 ρ σ F' H' Qd E Q (rl.go g) (xp.go g) (fun c v F2 H2 g2 r2 q2 => kk c v F2 H2 (g.trans g2) r2 q2) qd
  | false => exact b2 ρ σ F' H' Qd E Q (rl.go g) (xp.go g) (fun c v F2 H2 g2 r2 q2 => kk c v F2 H2 (g.trans g2) r2 q2) qd
end

/-! ### arguments, displays -/
section
variable {X : Cx} {W : WX} {e : Expr} {es : List Expr} {t : TD} {ts : TDs} {pos : Pos}
def dNil : TDs := fun _ Q _ => Q []
def dCons (t : TD) (u : TDs) : TDs := fun ρ Q E => t ρ (fun x => u ρ (fun xs => Q (x :: xs)) E) E
theorem ra_nil : RA X W [] dNil := ⟨_, pa_nil, fun ρ σ F H Qd E Q rl xp kk q => kk [] [] F H (.refl rl.fh) .nil q⟩
theorem ra_cons (h : RE X W e t) (hr : RA X W es ts) (hs : starEach (e :: es) X.env = (false, eval e X.env) :: starEach es X.env := by rfl) : RA X W (e :: es) (dCons t ts) := by
  obtain ⟨te, h1, h2⟩ := h.run
  obtain ⟨te1, a1, a2⟩ := hr.run
  refine ⟨_, pa_cons h1 a1 hs, fun ρ σ F H Qd E Q rl xp kk q => h2 ρ σ F H _ E _ rl xp (fun d v F1 H1 g1 r1 q1 => ?_) q⟩
  exact a2 ρ σ F1 H1 _ E _ (rl.go g1) (xp.go g1) (fun ds vs F2 H2 g2 r2 q2 => kk _ _ F2 H2 (g1.trans g2) (.cons (r1.mono g2.ff) r2) q2) q1
theorem rpa_nil : RPA X W [] dNil := ⟨_, pa_nil, fun ρ σ F H Qd E Q rl xp kk q => kk [] [] F H (.refl rl.fh) .nil q⟩
theorem rpa_cons (h : RP X W e t) (hr : RPA X W es ts) (hs : starEach (e :: es) X.env = (false, eval e X.env) :: starEach es X.env := by rfl) : RPA X W (e :: es) (dCons t ts) := by
  obtain ⟨te, h1, h2⟩ := h.run
  obtain ⟨te1, a1, a2⟩ := hr.run
  refine ⟨_, pa_cons h1 a1 hs, fun ρ σ F H Qd E Q rl xp kk q => h2 ρ σ F H _ E _ rl xp (fun d v F1 H1 g1 r1 q1 => ?_) q⟩
  exact a2 ρ σ F1 H1 _ E _ (rl.go g1) (xp.go g1) (fun ds vs F2 H2 g2 r2 q2 => kk _ _ F2 H2 (g1.trans g2) (.cons (r1.go g2) r2) q2) q1
theorem Go.lst {K : PySem.W.Frag} {F H : Hp} {ds : List D} {vs : List V} (e : Same F H) (r : Reps K F ds vs) (z : vs.length ≤ sizeLine) {p : Addr} (np : H p = none) : Go F H (upd F p (.lst vs)) (upd H p (.lst vs)) ∧ Rep K (upd F p (.lst vs)) (.lst ds) (.ref p) :=
  ⟨.alloc e np, .lst upd_same z (r.mono (same_upd (e.free np)))⟩
theorem Go.tup {K : PySem.W.Frag} {F H : Hp} {ds : List D} {vs : List V} (e : Same F H) (r : Reps K F ds vs) (z : vs.length ≤ sizeLine) {p : Addr} (np : H p = none) : Go F H (upd F p (.tup vs)) (upd H p (.tup vs)) ∧ Rep K (upd F p (.tup vs)) (.tup ds) (.ref p) :=
  ⟨.alloc e np, .tup upd_same z (r.mono (same_upd (e.free np)))⟩
/-- lists and tuples of fewer than so many things -/
def few (ds : List D) : Prop := ds.length ≤ 16777216
theorem few_line {K : PySem.W.Frag} {F : Hp} {ds : List D} {vs : List V} (r : Reps K F ds vs) (h : few ds) : vs.length ≤ sizeLine := by
  rw [r.length, sizeLine_eq]; exact h
def dTup (ts : TDs) : TD := fun ρ Q E => ts ρ (fun ds => few ds ∧ Q (.tup ds)) E
def dLst (ts : TDs) : TD := fun ρ Q E => ts ρ (fun ds => few ds ∧ Q (.lst ds)) E
theorem re_tup {j} (h : RA X W es ts) : RE X W (.Tuple es j pos) (dTup ts) := by
  obtain ⟨te, h1, h2⟩ := h.run
  refine ⟨_, pe_tup h1, fun ρ σ F H Qd E Q rl xp kk q => h2 ρ σ F H _ E _ rl xp (fun ds vs F1 H1 g1 r1 q1 => ⟨few_line r1 q1.1, fun p np => ?_⟩) q⟩
  obtain ⟨g, r⟩ := Go.tup g1.fh r1 (few_line r1 q1.1) np
  exact kk _ _ _ _ (g1.trans g) r q1.2
theorem re_lst (h : RA X W es ts) : RE X W (.List es pos) (dLst ts) := by
  obtain ⟨te, h1, h2⟩ := h.run
  refine ⟨_, pe_lst h1, fun ρ σ F H Qd E Q rl xp kk q => h2 ρ σ F H _ E _ rl xp (fun ds vs F1 H1 g1 r1 q1 => ⟨few_line r1 q1.1, fun p np => ?_⟩) q⟩
  obtain ⟨g, r⟩ := Go.lst g1.fh r1 (few_line r1 q1.1) np
  exact kk _ _ _ _ (g1.trans g) r q1.2
end

/-! ### operators of ints, texts, lists, tuples -/
section
variable {X : Cx}
theorem opd_rI {f : Value → Value → Sem Value} {C : Int → Int → Prop} {g : Int → Int → V} {k : KD} (o : OpR X f (rI C g))
    (h : ∀ (x y : D) (Q : EQ), k x y Q → ∃ i j d, x = .int i ∧ y = .int j ∧ C i j ∧ (∀ K F, Rep K F d (g i j)) ∧ Q d) : OpD X f k := by
  refine ⟨_, o, fun x y vx vy F H Qd Q e px py kk q => ?_⟩
  obtain ⟨i, j, d, rfl, rfl, c, r, q⟩ := h x y Qd q
  exact ⟨i, j, px.int, py.int, c, kk _ _ F H (.refl e) (r _ _) q⟩
theorem opd_rI0 {f : Value → Value → Sem Value} {g : Int → Int → V} {k : KD} (o : OpR X f (rI0 g))
    (h : ∀ (x y : D) (Q : EQ), k x y Q → ∃ i j d, x = .int i ∧ y = .int j ∧ (∀ K F, Rep K F d (g i j)) ∧ Q d) : OpD X f k := by
  refine ⟨_, o, fun x y vx vy F H Qd Q e px py kk q => ?_⟩
  obtain ⟨i, j, d, rfl, rfl, r, q⟩ := h x y Qd q
  exact ⟨i, j, px.int, py.int, kk _ _ F H (.refl e) (r _ _) q⟩
theorem OpD.or {f : Value → Value → Sem Value} {k k' : KD} (h : OpD X f k) (h' : OpD X f k') : OpD X f (fun x y Q => k x y Q ∨ k' x y Q) := by
  obtain ⟨r, o1, o2⟩ := h
  obtain ⟨r', o1', o2'⟩ := h'
  refine ⟨_, o1.or o1', fun x y vx vy F H Qd Q e px py kk q => ?_⟩
  exact q.elim (fun z => .inl (o2 x y vx vy F H Qd Q e px py kk z)) fun z => .inr (o2' x y vx vy F H Qd Q e px py kk z)
theorem OpD.imp {f : Value → Value → Sem Value} {k k' : KD} (h : OpD X f k) (i : ∀ x y Q, k' x y Q → k x y Q) : OpD X f k' := by
  obtain ⟨r, o1, o2⟩ := h
  exact ⟨r, o1, fun x y vx vy F H Qd Q e px py kk q => o2 x y vx vy F H Qd Q e px py kk (i _ _ _ q)⟩
/-- two ints, then -/
def k2 (g : Int → Int → EQ → Prop) : KD := fun x y Q => match x, y with
  | .int i, .int j => g i j Q
  | _, _ => False
theorem k2_inv {g : Int → Int → EQ → Prop} {x y : D} {Q : EQ} (h : k2 g x y Q) : ∃ i j, x = .int i ∧ y = .int j ∧ g i j Q := by
  cases x <;> cases y <;> first | exact ⟨_, _, rfl, rfl, h⟩ | exact False.elim h
def kAddI : KD := k2 fun i j Q => Q (.int (i + j))
def kAddS : KD := fun x y Q => match x, y with
  | .str a, .str b => a.length + b.length ≤ 16777216 ∧ Q (.str (a ++ b))
  | _, _ => False
def kAddL : KD := fun x y Q => match x, y with
  | .lst a, .lst b => few (a ++ b) ∧ Q (.lst (a ++ b))
  | _, _ => False
def kAddT : KD := fun x y Q => match x, y with
  | .tup a, .tup b => a ≠ [] ∧ few (a ++ b) ∧ Q (.tup (a ++ b))
  | _, _ => False
def kAdd : KD := fun x y Q => match x, y with
  | .int i, .int j => Q (.int (i + j))
  | .str a, .str b => a.length + b.length ≤ 16777216 ∧ Q (.str (a ++ b))
  | .lst a, .lst b => few (a ++ b) ∧ Q (.lst (a ++ b))
  | .tup a, .tup b => a ≠ [] ∧ few (a ++ b) ∧ Q (.tup (a ++ b))
  | _, _ => False
theorem opd_addI : OpD X (binaryOp .Add) kAddI := opd_rI0 op_add fun x y Q h => by
  obtain ⟨i, j, rfl, rfl, q⟩ := k2_inv h
  exact ⟨i, j, _, rfl, rfl, fun _ _ => .int _, q⟩
theorem opd_addS : OpD X (binaryOp .Add) kAddS := by
  refine ⟨_, op_add_str, fun x y vx vy F H Qd Q e px py kk q => ?_⟩
  obtain ⟨a, b, rfl, rfl, z, q⟩ : ∃ a b, x = .str a ∧ y = .str b ∧ a.length + b.length ≤ 16777216 ∧ Qd (.str (a ++ b)) := by
    cases x <;> cases y <;> first | exact ⟨_, _, rfl, rfl, q.1, q.2⟩ | exact False.elim q
  exact ⟨a, b, px.str, py.str, by rw [sizeLine_eq]; exact z, kk _ _ F H (.refl e) (.str _) q⟩
theorem opd_addL : OpD X (binaryOp .Add) kAddL := by
  refine ⟨_, op_cat, fun x y vx vy F H Qd Q e px py kk q => ?_⟩
  obtain ⟨a, b, rfl, rfl, z, q⟩ : ∃ a b, x = .lst a ∧ y = .lst b ∧ few (a ++ b) ∧ Qd (.lst (a ++ b)) := by
    cases x <;> cases y <;> first | exact ⟨_, _, rfl, rfl, q.1, q.2⟩ | exact False.elim q
  obtain ⟨p, vs, rfl, h1, l1, r1⟩ := px.lst e
  obtain ⟨p', vs', rfl, h1', l1', r1'⟩ := py.lst e
  have rr := r1.append r1'
  have zz := few_line rr z
  refine ⟨p, p', vs, vs', rfl, rfl, h1, h1', by rw [← List.length_append]; exact zz, fun l nl => ?_⟩
  obtain ⟨g, r⟩ := Go.lst e rr zz nl
  exact kk _ _ _ _ g r q
theorem opd_addT : OpD X (binaryOp .Add) kAddT := by
  refine ⟨_, op_catT, fun x y vx vy F H Qd Q e px py kk q => ?_⟩
  obtain ⟨a, b, rfl, rfl, ne, z, q⟩ : ∃ a b, x = .tup a ∧ y = .tup b ∧ a ≠ [] ∧ few (a ++ b) ∧ Qd (.tup (a ++ b)) := by
    cases x <;> cases y <;> first | exact ⟨_, _, rfl, rfl, q.1, q.2⟩ | exact False.elim q
  obtain ⟨p, vs, rfl, h1, l1, r1⟩ := px.tup e
  obtain ⟨p', vs', rfl, h1', l1', r1'⟩ := py.tup e
  have rr := r1.append r1'
  have zz := few_line rr z
  have nv : vs ≠ [] := fun h => ne (by rw [h] at r1; cases r1; rfl)
  refine ⟨p, p', vs, vs', rfl, rfl, h1, h1', nv, by rw [← List.length_append]; exact zz, fun en => ?_, fun nn l nl => ?_⟩
  · subst en
    cases r1'
    rw [List.append_nil] at q rr
    exact kk _ _ F H (.refl e) (by rcases px with px | ⟨_, _, _, z, _⟩; exact px; cases z) q
  · obtain ⟨g, r⟩ := Go.tup e rr zz nl
    exact kk _ _ _ _ g r q
theorem opd_add : OpD X (binaryOp .Add) kAdd := ((opd_addI.or opd_addS).or (opd_addL.or opd_addT)).imp fun x y Q h => by
  cases x <;> cases y <;> first | exact .inl (.inl h) | exact .inl (.inr h) | exact .inr (.inl h) | exact .inr (.inr h) | exact False.elim h
def kSub : KD := k2 fun i j Q => Q (.int (i - j))
theorem opd_sub : OpD X (binaryOp .Sub) kSub := opd_rI0 op_sub fun x y Q h => by
  obtain ⟨i, j, rfl, rfl, q⟩ := k2_inv h
  exact ⟨i, j, _, rfl, rfl, fun _ _ => .int _, q⟩
/-- a product that the machine makes: below 2 ^ 27 bits -/
def mulOk (i j : Int) : Prop := IntMulOk i j
theorem op_mulG : OpR X (binaryOp .Mult) (rI mulOk fun i j => .int (i * j)) := opI fun _ _ _ _ _ _ _ hc q => mul_int q hc
def kMulI : KD := k2 fun i j Q => mulOk i j ∧ Q (.int (i * j))
def kMulL : KD := fun x y Q => match x, y with
  | .lst a, .int k => k ≤ 1000000 ∧ -1000000 ≤ k ∧ few (List.replicate k.toNat a).flatten ∧ Q (.lst (List.replicate k.toNat a).flatten)
  | _, _ => False
theorem opd_mulI : OpD X (binaryOp .Mult) kMulI := opd_rI op_mulG fun x y Q h => by
  obtain ⟨i, j, rfl, rfl, c, q⟩ := k2_inv h
  exact ⟨i, j, _, rfl, rfl, c, fun _ _ => .int _, q⟩
theorem flat_len {α : Type} (xs : List α) : ∀ k : Nat, (List.replicate k xs).flatten.length = xs.length * k
  | 0 => rfl
  | k + 1 => by rw [List.replicate_succ, List.flatten_cons, List.length_append, flat_len xs k, Nat.mul_succ]; omega
theorem opd_mulL : OpD X (binaryOp .Mult) kMulL := by
  refine ⟨_, op_rep, fun x y vx vy F H Qd Q e px py kk q => ?_⟩
  obtain ⟨a, k, rfl, rfl, z1, z2, z, q⟩ : ∃ a k, x = .lst a ∧ y = .int k ∧ k ≤ 1000000 ∧ -1000000 ≤ k ∧ few (List.replicate k.toNat a).flatten ∧ Qd (.lst (List.replicate k.toNat a).flatten) := by
    cases x <;> cases y <;> first | exact ⟨_, _, rfl, rfl, q.1, q.2.1, q.2.2.1, q.2.2.2⟩ | exact False.elim q
  obtain ⟨p, vs, rfl, h1, l1, r1⟩ := px.lst e
  cases py.int
  have rr := r1.rep k.toNat
  have zz := few_line rr z
  refine ⟨p, k, vs, rfl, rfl, h1, by omega, by omega, by rw [← flat_len]; exact zz, fun l nl => ?_⟩
  obtain ⟨g, r⟩ := Go.lst e rr zz nl
  exact kk _ _ _ _ g r q
def kMul : KD := fun x y Q => match x, y with
  | .int i, .int j => mulOk i j ∧ Q (.int (i * j))
  | .lst a, .int k => k ≤ 1000000 ∧ -1000000 ≤ k ∧ few (List.replicate k.toNat a).flatten ∧ Q (.lst (List.replicate k.toNat a).flatten)
  | _, _ => False
theorem opd_mul : OpD X (binaryOp .Mult) kMul := (opd_mulI.or opd_mulL).imp fun x y Q h => by
  cases x <;> cases y <;> first | exact .inl h | exact .inr h | exact False.elim h
/-- a floor: the divisor not nought, below 9,000 bits -/
def divOk (j : Int) : Prop := j ≠ 0 ∧ j.natAbs.log2 < 9000
theorem op_divG : OpR X (binaryOp .FloorDiv) (rI (fun _ j => divOk j) fun i j => .int (i.fdiv j)) :=
  opI fun i j _ _ _ _ _ hc q => floordiv_int hc.1 q (.inl (PyProof.noPylong_of_log2 hc.2))
def kDiv : KD := k2 fun i j Q => divOk j ∧ Q (.int (i.fdiv j))
theorem opd_div : OpD X (binaryOp .FloorDiv) kDiv := opd_rI op_divG fun x y Q h => by
  obtain ⟨i, j, rfl, rfl, c, q⟩ := k2_inv h
  exact ⟨i, j, _, rfl, rfl, c, fun _ _ => .int _, q⟩
def kMod : KD := k2 fun i j Q => j ≠ 0 ∧ Q (.int (i.fmod j))
theorem opd_mod : OpD X (binaryOp .Mod) kMod := opd_rI op_modN fun x y Q h => by
  obtain ⟨i, j, rfl, rfl, c, q⟩ := k2_inv h
  exact ⟨i, j, _, rfl, rfl, c, fun _ _ => .int _, q⟩
def kPow : KD := k2 fun i j Q => (0 ≤ j ∧ j ≤ 1000000 ∧ i.natAbs < 2 ^ 64) ∧ Q (.int (i ^ j.toNat))
theorem opd_pow : OpD X (binaryOp .Pow) kPow := opd_rI op_pow fun x y Q h => by
  obtain ⟨i, j, rfl, rfl, c, q⟩ := k2_inv h
  exact ⟨i, j, _, rfl, rfl, c, fun _ _ => .int _, q⟩
/-! comparisons -/
def kLt : KD := k2 fun i j Q => Q (.bl (decide (i < j)))
def kLe : KD := k2 fun i j Q => Q (.bl (decide (i ≤ j)))
def kGt : KD := k2 fun i j Q => Q (.bl (decide (j < i)))
def kGe : KD := k2 fun i j Q => Q (.bl (decide (j ≤ i)))
theorem opd_lt : OpD X (compareOp .Lt) kLt := opd_rI0 op_lt fun x y Q h => by
  obtain ⟨i, j, rfl, rfl, q⟩ := k2_inv h
  exact ⟨i, j, _, rfl, rfl, fun _ _ => .bl _, q⟩
theorem opd_le : OpD X (compareOp .LtE) kLe := opd_rI0 op_le fun x y Q h => by
  obtain ⟨i, j, rfl, rfl, q⟩ := k2_inv h
  exact ⟨i, j, _, rfl, rfl, fun _ _ => .bl _, q⟩
theorem opd_gt : OpD X (compareOp .Gt) kGt := opd_rI0 op_gt fun x y Q h => by
  obtain ⟨i, j, rfl, rfl, q⟩ := k2_inv h
  exact ⟨i, j, _, rfl, rfl, fun _ _ => .bl _, q⟩
theorem opd_ge : OpD X (compareOp .GtE) kGe := opd_rI0 op_ge fun x y Q h => by
  obtain ⟨i, j, rfl, rfl, q⟩ := k2_inv h
  exact ⟨i, j, _, rfl, rfl, fun _ _ => .bl _, q⟩
/-- flat data, not deep -/
def plain (d : D) : Prop := d.flat = true ∧ SeqAt.shaped d.py = true
def kEqG : KD := fun x y Q => plain x ∧ plain y ∧ Q (.bl (PyData.eqv x.py y.py))
def kNeG : KD := fun x y Q => plain x ∧ plain y ∧ Q (.bl (!PyData.eqv x.py y.py))
def kEqI : KD := fun x y Q => match x, y with
  | .int i, .int j => Q (.bl (decide (i = j)))
  | .str i, .str j => Q (.bl (decide (i = j)))
  | .bl i, .bl j => Q (.bl (decide (i = j)))
  | _, _ => False
def kNeI : KD := fun x y Q => match x, y with
  | .int i, .int j => Q (.bl (!decide (i = j)))
  | .str i, .str j => Q (.bl (!decide (i = j)))
  | .bl i, .bl j => Q (.bl (!decide (i = j)))
  | _, _ => False
theorem opd_eqI : OpD X (compareOp .Eq) kEqI := by
  refine ⟨_, op_eq, fun x y vx vy F H Qd Q e px py kk q => ?_⟩
  cases x <;> cases y <;> first | exact False.elim q | skip
  · cases px.bl; cases py.bl; exact ⟨rfl, kk _ _ F H (.refl e) (by rw [show ∀ a b : Bool, decide (V.bl a = V.bl b) = decide (a = b) from fun a b => by cases a <;> cases b <;> rfl]; exact .bl _) q⟩
  · cases px.int; cases py.int; exact ⟨rfl, kk _ _ F H (.refl e) (by rw [dec_int, Bool.beq_eq_decide_eq]; exact .bl _) q⟩
  · cases px.str; cases py.str; exact ⟨rfl, kk _ _ F H (.refl e) (by rw [dec_str, Bool.beq_eq_decide_eq]; exact .bl _) q⟩
theorem opd_neI : OpD X (compareOp .NotEq) kNeI := by
  refine ⟨_, op_ne, fun x y vx vy F H Qd Q e px py kk q => ?_⟩
  cases x <;> cases y <;> first | exact False.elim q | skip
  · cases px.bl; cases py.bl; exact ⟨rfl, kk _ _ F H (.refl e) (by rw [show ∀ a b : Bool, decide (V.bl a = V.bl b) = decide (a = b) from fun a b => by cases a <;> cases b <;> rfl]; exact .bl _) q⟩
  · cases px.int; cases py.int; exact ⟨rfl, kk _ _ F H (.refl e) (by rw [dec_int, Bool.beq_eq_decide_eq]; exact .bl _) q⟩
  · cases px.str; cases py.str; exact ⟨rfl, kk _ _ F H (.refl e) (by rw [dec_str, Bool.beq_eq_decide_eq]; exact .bl _) q⟩
theorem opd_eqG (hu : X.A.units + 64 < cLine) : OpD X (compareOp .Eq) kEqG := by
  refine ⟨_, op_eqD hu, fun x y vx vy F H Qd Q e px py kk ⟨q1, q2, q⟩ => ?_⟩
  exact ⟨_, _, (px.rep e).dp q1.1, (py.rep e).dp q2.1, q1.2, q2.2, kk _ _ F H (.refl e) (.bl _) q⟩
theorem opd_neG (hu : X.A.units + 64 < cLine) : OpD X (compareOp .NotEq) kNeG := by
  refine ⟨_, op_neD hu, fun x y vx vy F H Qd Q e px py kk ⟨q1, q2, q⟩ => ?_⟩
  exact ⟨_, _, (px.rep e).dp q1.1, (py.rep e).dp q2.1, q1.2, q2.2, kk _ _ F H (.refl e) (.bl _) q⟩
def kEq : KD := fun x y Q => match x, y with
  | .int i, .int j => Q (.bl (decide (i = j)))
  | .str i, .str j => Q (.bl (decide (i = j)))
  | .bl i, .bl j => Q (.bl (decide (i = j)))
  | x, y => plain x ∧ plain y ∧ Q (.bl (PyData.eqv x.py y.py))
def kNe : KD := fun x y Q => match x, y with
  | .int i, .int j => Q (.bl (!decide (i = j)))
  | .str i, .str j => Q (.bl (!decide (i = j)))
  | .bl i, .bl j => Q (.bl (!decide (i = j)))
  | x, y => plain x ∧ plain y ∧ Q (.bl (!PyData.eqv x.py y.py))
theorem opd_eq (hu : X.A.units + 64 < cLine) : OpD X (compareOp .Eq) kEq := (opd_eqI.or (opd_eqG hu)).imp fun x y Q h => by
  cases x <;> cases y <;> first | exact .inl h | exact .inr h
theorem opd_ne (hu : X.A.units + 64 < cLine) : OpD X (compareOp .NotEq) kNe := (opd_neI.or (opd_neG hu)).imp fun x y Q h => by
  cases x <;> cases y <;> first | exact .inl h | exact .inr h
end
end Dl

/-! The D-layer, part 3: subscripts, slices, built-in calls, defs called, fields, methods, new instances. -/
namespace Dl
open PySem PySem.Spec
open PyProof.Rows L2
section
variable {X : Cx} {W : WX} {e a b c : Expr} {es : List Expr} {t ta tb tc : TD} {ts : TDs} {pos : Pos}
/-! ### places -/
/-- what wants a thing, of what may be none -/
def asO {α : Type} (Q : α → Prop) : Option α → Prop
  | some d => Q d
  | none => False
theorem asO_inv {α : Type} {Q : α → Prop} {o : Option α} (h : asO Q o) : ∃ d, o = some d ∧ Q d := by
  cases o with
  | none => exact h.elim
  | some d => exact ⟨d, rfl, h⟩
theorem reps_at {K : PySem.W.Frag} {F : Hp} {ds : List D} {vs : List V} {i : Int} {d : D} (r : Reps K F ds vs) (h : atI ds i = some d) : ∃ v, atI vs i = some v ∧ Rep K F d v := by
  unfold atI at h ⊢
  rw [r.length]
  cases q : ixN ds.length i with
  | none => rw [q] at h; cases h
  | some j => rw [q] at h; exact r.get h
def kIx : KD := fun x y Q => match x, y with
  | .lst ds, .int i => asO Q (atI ds i)
  | .frl ds, .int i => asO Q (atI ds i)
  | .tup ds, .int i => asO Q (atI ds i)
  | _, _ => False
def IxD (X : Cx) (k : KD) : Prop :=
  ∃ r, IxR X r ∧ ∀ (x y : D) (vx vy : V) (F H : Hp) (Qd : EQ) (Q : VK), Same F H → Pk X.K F H x vx → Pk X.K F H y vy →
    (∀ d v F' H', Go F H F' H' → Rep X.K F' d v → Qd d → Q v H') → k x y Qd → r vx vy H Q
theorem ixd_seq : IxD X kIx := by
  refine ⟨_, ix_seq, fun x y vx vy F H Qd Q e px py kk q => ?_⟩
  cases x <;> cases y <;> first | exact False.elim q | skip
  · cases py.int
    obtain ⟨d, hd, qd⟩ := asO_inv q
    obtain ⟨p, vs, rfl, h1, l1, r1⟩ := px.tup e
    obtain ⟨v, h2, r2⟩ := reps_at r1 hd
    exact .inr (.inl ⟨p, vs, _, v, rfl, rfl, h1, h2, kk _ _ F H (.refl e) r2 qd⟩)
  · cases py.int
    obtain ⟨d, hd, qd⟩ := asO_inv q
    obtain ⟨p, vs, rfl, h1, l1, r1⟩ := px.lst e
    obtain ⟨v, h2, r2⟩ := reps_at r1 hd
    exact .inl ⟨p, vs, _, v, rfl, rfl, SqL.of h1, h2, kk _ _ F H (.refl e) r2 qd⟩
  · cases py.int
    obtain ⟨d, hd, qd⟩ := asO_inv q
    obtain ⟨p, vs, rfl, h1, l1, r1⟩ := px.frl e
    obtain ⟨v, h2, r2⟩ := reps_at r1 hd
    exact .inl ⟨p, vs, _, v, rfl, rfl, h1, h2, kk _ _ F H (.refl e) r2 qd⟩
theorem re_ix {k : KD} (ho : IxD X k) (ha : RP X W a ta) (hb : RP X W b tb) (hs : PlainIx b := by exact fun _ _ => rfl) : RE X W (.Subscript a b pos) (dOp k ta tb) := by
  obtain ⟨r, o1, o2⟩ := ho
  obtain ⟨te1, a1, a2⟩ := ha.run
  obtain ⟨te2, b1, b2⟩ := hb.run
  exact ⟨_, pe_ix o1 a1 b1 hs, fun ρ σ F H Qd E Q rl xp kk q => op_core a2 b2 o2 rl xp kk q⟩

/-! ### slices -/
abbrev TDo := Env' → (Option Int → Prop) → EQ → Prop
structure RO (X : Cx) (W : WX) (e : Option Expr) (t : TDo) : Prop where
  run : ∃ to, PO X e to ∧ ∀ (ρ : Env') (σ : L2.St) (F H : Hp) (Qd : Option Int → Prop) (E : EQ) (Q : Option Int → Hp → Prop), Rl X.K ρ σ F H → XP X.K W σ F H E →
    (∀ o F' H', Go F H F' H' → Qd o → Q o H') → t ρ Qd E → to σ H Q
def dNoPart : TDo := fun _ Q _ => Q none
def asI (Q : Int → Prop) : EQ
  | .int i => Q i
  | _ => False
theorem asI_inv {Q : Int → Prop} {d : D} (h : asI Q d) : ∃ i, d = .int i ∧ Q i := by
  cases d <;> first | exact ⟨_, rfl, h⟩ | exact False.elim h
def dPart (t : TD) : TDo := fun ρ Q E => t ρ (asI fun i => Q (some i)) E
theorem ro_none : RO X W none dNoPart := ⟨_, po_none, fun ρ σ F H Qd E Q rl xp kk q => kk _ F H (.refl rl.fh) q⟩
theorem ro_some (h : RP X W e t) : RO X W (some e) (dPart t) := by
  obtain ⟨te, h1, h2⟩ := h.run
  refine ⟨_, po_some h1, fun ρ σ F H Qd E Q rl xp kk q => h2 ρ σ F H _ E _ rl xp (fun d v F1 H1 g1 r1 q1 => ?_) q⟩
  obtain ⟨i, rfl, qi⟩ := asI_inv q1
  cases r1.int
  exact ⟨i, rfl, kk _ F1 H1 g1 qi⟩
def cut {α : Type} (xs : List α) (lo hi : Option Int) : List α := (xs.drop (HT.sIx xs.length 0 lo)).take (HT.sIx xs.length xs.length hi - HT.sIx xs.length 0 lo)
theorem cut_len {α : Type} (xs : List α) (lo hi : Option Int) : (cut xs lo hi).length ≤ xs.length := by
  unfold cut
  rw [List.length_take, List.length_drop]
  omega
theorem reps_cut {K : PySem.W.Frag} {F : Hp} {ds : List D} {vs : List V} (lo hi : Option Int) (r : Reps K F ds vs) : Reps K F (cut ds lo hi) (cutV vs lo hi) := by
  unfold cut cutV
  rw [r.length]
  exact (r.drop _).take _
theorem cutV_whole {vs : List V} {lo hi : Option Int} (h : HT.sIx vs.length 0 lo = 0 ∧ HT.sIx vs.length vs.length hi = vs.length) : cutV vs lo hi = vs := by
  unfold cutV
  rw [h.1, h.2]
  simp
/-- t[:], t[0:], the tuple itself -/
theorem sl_tupW {X : Cx} : SlR X (fun x lo hi H Q => ∃ a xs, x = .ref a ∧ SqT X.K H a xs ∧ (HT.sIx xs.length 0 lo = 0 ∧ HT.sIx xs.length xs.length hi = xs.length) ∧ False ∧ Q (.ref a) H) := by
  intro pins s σ H x v vl vu lo hi sl Q I rx hs pl pu h
  obtain ⟨_, _, _, _, _, f, _⟩ := h
  exact f.elim
def kSl : D → Option Int → Option Int → EQ → Prop := fun x lo hi Q => match x with
  | .lst ds => Q (.lst (cut ds lo hi))
  | .frl ds => Q (.lst (cut ds lo hi))
  | .tup ds => ¬ (HT.sIx ds.length 0 lo = 0 ∧ HT.sIx ds.length ds.length hi = ds.length) ∧ Q (.tup (cut ds lo hi))
  | .str z => z.length ≤ 16777216 ∧ Q (.str (cutS z lo hi))
  | _ => False
def dSl (t : TD) (tl th : TDo) : TD := fun ρ Q E => t ρ (fun x => tl ρ (fun l => th ρ (fun u => kSl x l u Q) E) E) E
theorem re_slice {lo hi : Option Expr} {p2 : Pos} {tl th : TDo} (he : RP X W e t) (hl : RO X W lo tl) (hh : RO X W hi th) : RE X W (.Subscript e (.Slice lo hi none p2) pos) (dSl t tl th) := by
  obtain ⟨te, h1, h2⟩ := he.run
  obtain ⟨te1, a1, a2⟩ := hl.run
  obtain ⟨te2, b1, b2⟩ := hh.run
  refine ⟨_, pe_slice ((sl_list.or sl_tup).or sl_str) h1 a1 b1, fun ρ σ F H Qd E Q rl xp kk q => h2 ρ σ F H _ E _ rl xp (fun x vx F1 H1 g1 px q1 => ?_) q⟩
  refine a2 ρ σ F1 H1 _ E _ (rl.go g1) (xp.go g1) (fun l F2 H2 g2 q2 => ?_) q1
  refine b2 ρ σ F2 H2 _ E _ ((rl.go g1).go g2) ((xp.go g1).go g2) (fun u F3 H3 g3 q3 => ?_) q2
  have g := (g1.trans g2).trans g3
  have px3 := (px.go g2).go g3
  cases x <;> first | exact False.elim q3 | skip
  · cases px3.str
    exact .inr ⟨_, rfl, by rw [sizeLine_eq]; exact q3.1, kk _ _ F3 H3 g (.str _) q3.2⟩
  · obtain ⟨p, vs, rfl, hs, l1, r1⟩ := px3.tup g3.fh
    have z1 := Nat.le_trans (cutV_length vs l u) l1
    refine .inl (.inr ⟨p, vs, rfl, hs, by rw [r1.length]; exact q3.1, fun n nn => ?_⟩)
    obtain ⟨g4, r4⟩ := Go.tup g3.fh (reps_cut l u r1) z1 nn
    exact kk _ _ _ _ (g.trans g4) r4 q3.2
  · obtain ⟨p, vs, rfl, hs, l1, r1⟩ := px3.lst g3.fh
    have z1 := Nat.le_trans (cutV_length vs l u) l1
    refine .inl (.inl ⟨p, vs, rfl, SqL.of hs, fun n nn => ?_⟩)
    obtain ⟨g4, r4⟩ := Go.lst g3.fh (reps_cut l u r1) z1 nn
    exact kk _ _ _ _ (g.trans g4) r4 q3
  · obtain ⟨p, vs, rfl, hs, l1, r1⟩ := px3.frl g3.fh
    have z1 := Nat.le_trans (cutV_length vs l u) l1
    refine .inl (.inl ⟨p, vs, rfl, hs, fun n nn => ?_⟩)
    obtain ⟨g4, r4⟩ := Go.lst g3.fh (reps_cut l u r1) z1 nn
    exact kk _ _ _ _ (g.trans g4) r4 q3

/-! ### built-in calls -/
abbrev KC := List D → EQ → Prop
def CallD (X : Cx) (f : Value) (k : KC) : Prop :=
  ∃ r, CallR X f r ∧ ∀ (ds : List D) (vs : List V) (F H : Hp) (Qd : EQ) (Q : VK), Same F H → Pks X.K F H ds vs →
    (∀ d v F' H', Go F H F' H' → Rep X.K F' d v → Qd d → Q v H') → k ds Qd → r vs H Q
def dCB (k : KC) (ts : TDs) : TD := fun ρ Q E => ts ρ (fun ds => k ds Q) E
theorem re_callB {id : String} {x : Str} {p : Pos} {k : KC} (hc : CallD X (.builtin id) k) (hm : X.mg x = none) (ha : RPA X W (e :: es) ts) (hg : Gl X x := by rfl) (hv : bootBuiltins x = some (.builtin id) := by decide +kernel)
    (hn : x ≠ "__name__" := by decide) (hdb : (x == ("__debug__" : Str)) = false := by decide)
    (he : starEach (e :: es) X.env = (false, eval e X.env) :: starEach es X.env := by rfl) (hpl : (backTo pos (starEach es X.env)).any (·.1) = false := by rfl) : RE X W (.Call (.Name x p) (e :: es) [] pos) (dCB k ts) := by
  obtain ⟨r, o1, o2⟩ := hc
  obtain ⟨te, h1, h2⟩ := ha.run
  exact ⟨_, pe_callB o1 hg hm hv h1 hn hdb he hpl, fun ρ σ F H Qd E Q rl xp kk q => h2 ρ σ F H _ E _ rl xp (fun ds vs F1 H1 g1 r1 q1 => o2 ds vs F1 H1 Qd Q g1.fh r1 (fun d v F' H' g rp qd => kk d v F' H' (g1.trans g) rp qd) q1) q⟩
theorem re_callTy {T : String} {x : Str} {p : Pos} {k : KC} (hc : CallD X (.type T) k) (hm : X.mg x = none) (ha : RPA X W (e :: es) ts) (hg : Gl X x := by rfl) (hv : bootBuiltins x = some (.type T) := by decide +kernel)
    (hn : x ≠ "__name__" := by decide) (hdb : (x == ("__debug__" : Str)) = false := by decide)
    (he : starEach (e :: es) X.env = (false, eval e X.env) :: starEach es X.env := by rfl) (hpl : (backTo pos (starEach es X.env)).any (·.1) = false := by rfl) : RE X W (.Call (.Name x p) (e :: es) [] pos) (dCB k ts) := by
  obtain ⟨r, o1, o2⟩ := hc
  obtain ⟨te, h1, h2⟩ := ha.run
  exact ⟨_, pe_callTy o1 hg hm hv h1 hn hdb he hpl, fun ρ σ F H Qd E Q rl xp kk q => h2 ρ σ F H _ E _ rl xp (fun ds vs F1 H1 g1 r1 q1 => o2 ds vs F1 H1 Qd Q g1.fh r1 (fun d v F' H' g rp qd => kk d v F' H' (g1.trans g) rp qd) q1) q⟩
theorem pks1 {K : PySem.W.Frag} {F H : Hp} {d : D} {vs : List V} (h : Pks K F H [d] vs) : ∃ v, vs = [v] ∧ Pk K F H d v := by
  cases h with
  | cons p q => cases q; exact ⟨_, rfl, p⟩
theorem pks2 {K : PySem.W.Frag} {F H : Hp} {d d' : D} {vs : List V} (h : Pks K F H [d, d'] vs) : ∃ v v', vs = [v, v'] ∧ Pk K F H d v ∧ Pk K F H d' v' := by
  cases h with
  | cons p q =>
    obtain ⟨v, rfl, p'⟩ := pks1 q
    exact ⟨_, _, rfl, p, p'⟩
def k1c (g : D → EQ → Prop) : KC := fun ds Q => match ds with
  | [d] => g d Q
  | _ => False
theorem k1c_inv {g : D → EQ → Prop} {ds : List D} {Q : EQ} (h : k1c g ds Q) : ∃ d, ds = [d] ∧ g d Q := by
  match ds, h with
  | [d], h => exact ⟨d, rfl, h⟩
def k2c (g : D → D → EQ → Prop) : KC := fun ds Q => match ds with
  | [d, e] => g d e Q
  | _ => False
theorem k2c_inv {g : D → D → EQ → Prop} {ds : List D} {Q : EQ} (h : k2c g ds Q) : ∃ d e, ds = [d, e] ∧ g d e Q := by
  match ds, h with
  | [d, e], h => exact ⟨d, e, rfl, h⟩
/-- len -/
def kLen : KC := k1c fun d Q => match d with
  | .lst ds => Q (.int ds.length)
  | .frl ds => Q (.int ds.length)
  | .tup ds => Q (.int ds.length)
  | .str z => z.length ≤ 16777216 ∧ Q (.int z.length)
  | _ => False
theorem cd_len : CallD X (.builtin "len") kLen := by
  refine ⟨_, call_len_seq.or call_len_str, fun ds vs F H Qd Q e ps kk q => ?_⟩
  obtain ⟨d, rfl, q⟩ := k1c_inv q
  obtain ⟨v, rfl, pk⟩ := pks1 ps
  cases d <;> first | exact False.elim q | skip
  · cases pk.str
    exact .inr ⟨_, rfl, by rw [sizeLine_eq]; exact q.1, kk _ _ F H (.refl e) (.int _) q.2⟩
  · obtain ⟨p, ws, rfl, h1, l1, r1⟩ := pk.tup e
    exact .inl ⟨p, ws, rfl, .inr h1, kk _ _ F H (.refl e) (by rw [r1.length]; exact .int _) q⟩
  · obtain ⟨p, ws, rfl, h1, l1, r1⟩ := pk.lst e
    exact .inl ⟨p, ws, rfl, .inl (SqL.of h1), kk _ _ F H (.refl e) (by rw [r1.length]; exact .int _) q⟩
  · obtain ⟨p, ws, rfl, h1, l1, r1⟩ := pk.frl e
    exact .inl ⟨p, ws, rfl, .inl h1, kk _ _ F H (.refl e) (by rw [r1.length]; exact .int _) q⟩
theorem cd_abs : CallD X (.builtin "abs") (k1c fun d Q => asI (fun i => Q (.int (if i < 0 then -i else i))) d) := by
  refine ⟨_, call_abs, fun ds vs F H Qd Q e ps kk q => ?_⟩
  obtain ⟨d, rfl, q⟩ := k1c_inv q
  obtain ⟨v, rfl, pk⟩ := pks1 ps
  obtain ⟨i, rfl, q⟩ := asI_inv q
  cases pk.int
  exact ⟨i, rfl, kk _ _ F H (.refl e) (.int _) q⟩
theorem cd_max2 (hc : X.calm = true) : CallD X (.builtin "max") (k2c fun d d' Q => asI (fun i => asI (fun j => Q (.int (if j > i then j else i))) d') d) := by
  refine ⟨_, call_max2 hc, fun ds vs F H Qd Q e ps kk q => ?_⟩
  obtain ⟨d, d', rfl, q⟩ := k2c_inv q
  obtain ⟨v, v', rfl, pk, pk'⟩ := pks2 ps
  obtain ⟨i, rfl, q⟩ := asI_inv q
  obtain ⟨j, rfl, q⟩ := asI_inv q
  cases pk.int; cases pk'.int
  exact ⟨i, j, rfl, kk _ _ F H (.refl e) (.int _) q⟩
/-- the ints of a list of ints -/
def intsOf : List D → Option (List Int)
  | [] => some []
  | .int i :: ds => (intsOf ds).map (i :: ·)
  | _ :: _ => none
theorem intsOf_map : ∀ ns : List Int, intsOf (ns.map D.int) = some ns
  | [] => rfl
  | n :: ns => by show (intsOf (ns.map D.int)).map (n :: ·) = _; rw [intsOf_map ns]; rfl
theorem intsOf_inv : ∀ {ds : List D} {ns : List Int}, intsOf ds = some ns → ds = ns.map D.int
  | [], ns, h => by cases h; rfl
  | d :: ds, ns, h => by
    cases d <;> first | cases h | skip
    rename_i i
    cases q : intsOf ds with
    | none => rw [show intsOf (.int i :: ds) = (intsOf ds).map (i :: ·) from rfl, q] at h; cases h
    | some ms =>
      rw [show intsOf (.int i :: ds) = (intsOf ds).map (i :: ·) from rfl, q] at h
      cases h
      rw [intsOf_inv q]; rfl
def blsOf : List D → Option (List Bool)
  | [] => some []
  | .bl i :: ds => (blsOf ds).map (i :: ·)
  | _ :: _ => none
theorem blsOf_map : ∀ ns : List Bool, blsOf (ns.map D.bl) = some ns
  | [] => rfl
  | n :: ns => by show (blsOf (ns.map D.bl)).map (n :: ·) = _; rw [blsOf_map ns]; rfl
theorem blsOf_inv : ∀ {ds : List D} {ns : List Bool}, blsOf ds = some ns → ds = ns.map D.bl
  | [], ns, h => by cases h; rfl
  | d :: ds, ns, h => by
    cases d <;> first | cases h | skip
    rename_i i
    cases q : blsOf ds with
    | none => rw [show blsOf (.bl i :: ds) = (blsOf ds).map (i :: ·) from rfl, q] at h; cases h
    | some ms =>
      rw [show blsOf (.bl i :: ds) = (blsOf ds).map (i :: ·) from rfl, q] at h
      cases h
      rw [blsOf_inv q]; rfl
def onL (g : List D → Prop) : D → Prop
  | .lst ds => g ds
  | _ => False
theorem onL_inv {g : List D → Prop} {d : D} (h : onL g d) : ∃ ds, d = .lst ds ∧ g ds := by
  cases d <;> first | exact ⟨_, rfl, h⟩ | exact False.elim h
def kSum : KC := k1c fun d Q => onL (fun ds => asO (fun ns => Q (.int (List.sum ns))) (intsOf ds)) d
theorem cd_sum (hc : X.calm = true) : CallD X (.builtin "sum") kSum := by
  refine ⟨_, cr_sum hc, fun ds vs F H Qd Q e ps kk q => ?_⟩
  obtain ⟨d, rfl, q⟩ := k1c_inv q
  obtain ⟨v, rfl, pk⟩ := pks1 ps
  obtain ⟨xs, rfl, q⟩ := onL_inv q
  obtain ⟨ns, hn, q⟩ := asO_inv q
  obtain ⟨p, ws, rfl, h1, l1, r1⟩ := pk.lst e
  rw [intsOf_inv hn] at r1
  have z := r1.ints
  subst z
  exact ⟨p, ns, rfl, SqL.of h1, kk _ _ F H (.refl e) (.int _) q⟩
def kAll : KC := k1c fun d Q => onL (fun ds => asO (fun ns => Q (.bl (List.all ns id))) (blsOf ds)) d
theorem cd_all (hc : X.calm = true) : CallD X (.builtin "all") kAll := by
  refine ⟨_, cr_all hc, fun ds vs F H Qd Q e ps kk q => ?_⟩
  obtain ⟨d, rfl, q⟩ := k1c_inv q
  obtain ⟨v, rfl, pk⟩ := pks1 ps
  obtain ⟨xs, rfl, q⟩ := onL_inv q
  obtain ⟨ns, hn, q⟩ := asO_inv q
  obtain ⟨p, ws, rfl, h1, l1, r1⟩ := pk.lst e
  rw [blsOf_inv hn] at r1
  have z := r1.bls
  subst z
  exact ⟨p, ns, rfl, SqL.of h1, kk _ _ F H (.refl e) (.bl _) q⟩
def kAny : KC := k1c fun d Q => onL (fun ds => asO (fun ns => Q (.bl (List.any ns id))) (blsOf ds)) d
theorem cd_any (hc : X.calm = true) : CallD X (.builtin "any") kAny := by
  refine ⟨_, cr_any hc, fun ds vs F H Qd Q e ps kk q => ?_⟩
  obtain ⟨d, rfl, q⟩ := k1c_inv q
  obtain ⟨v, rfl, pk⟩ := pks1 ps
  obtain ⟨xs, rfl, q⟩ := onL_inv q
  obtain ⟨ns, hn, q⟩ := asO_inv q
  obtain ⟨p, ws, rfl, h1, l1, r1⟩ := pk.lst e
  rw [blsOf_inv hn] at r1
  have z := r1.bls
  subst z
  exact ⟨p, ns, rfl, SqL.of h1, kk _ _ F H (.refl e) (.bl _) q⟩
/-- tuple(x), list(x) -/
def kTuple : KC := k1c fun d Q => match d with
  | .lst ds => Q (.tup ds)
  | .frl ds => Q (.tup ds)
  | .tup ds => Q (.tup ds)
  | _ => False
theorem cd_tuple : CallD X (.type "tuple") kTuple := by
  refine ⟨_, call_tuple_of, fun ds vs F H Qd Q e ps kk q => ?_⟩
  obtain ⟨d, rfl, q⟩ := k1c_inv q
  obtain ⟨v, rfl, pk⟩ := pks1 ps
  cases d <;> first | exact False.elim q | skip
  · obtain ⟨p, ws, rfl, h1, l1, r1⟩ := pk.tup e
    exact ⟨p, ws, rfl, .inr ⟨h1, kk _ _ F H (.refl e) (by rcases pk with pk | ⟨_, _, _, z, _⟩; exact pk; cases z) q⟩⟩
  · obtain ⟨p, ws, rfl, h1, l1, r1⟩ := pk.lst e
    refine ⟨p, ws, rfl, .inl ⟨SqL.of h1, fun n nn => ?_⟩⟩
    obtain ⟨g4, r4⟩ := Go.tup e r1 l1 nn
    exact kk _ _ _ _ g4 r4 q
  · obtain ⟨p, ws, rfl, h1, l1, r1⟩ := pk.frl e
    refine ⟨p, ws, rfl, .inl ⟨h1, fun n nn => ?_⟩⟩
    obtain ⟨g4, r4⟩ := Go.tup e r1 l1 nn
    exact kk _ _ _ _ g4 r4 q
def kList : KC := k1c fun d Q => match d with
  | .lst ds => Q (.lst ds)
  | .frl ds => Q (.lst ds)
  | .tup ds => Q (.lst ds)
  | _ => False
theorem cd_list : CallD X (.type "list") kList := by
  refine ⟨_, call_list_of, fun ds vs F H Qd Q e ps kk q => ?_⟩
  obtain ⟨d, rfl, q⟩ := k1c_inv q
  obtain ⟨v, rfl, pk⟩ := pks1 ps
  cases d <;> first | exact False.elim q | skip
  · obtain ⟨p, ws, rfl, h1, l1, r1⟩ := pk.tup e
    refine ⟨p, ws, rfl, .inr h1, fun n nn => ?_⟩
    obtain ⟨g4, r4⟩ := Go.lst e r1 l1 nn
    exact kk _ _ _ _ g4 r4 q
  · obtain ⟨p, ws, rfl, h1, l1, r1⟩ := pk.lst e
    refine ⟨p, ws, rfl, .inl (SqL.of h1), fun n nn => ?_⟩
    obtain ⟨g4, r4⟩ := Go.lst e r1 l1 nn
    exact kk _ _ _ _ g4 r4 q
  · obtain ⟨p, ws, rfl, h1, l1, r1⟩ := pk.frl e
    refine ⟨p, ws, rfl, .inl h1, fun n nn => ?_⟩
    obtain ⟨g4, r4⟩ := Go.lst e r1 l1 nn
    exact kk _ _ _ _ g4 r4 q
/-- str of an int -/
theorem cd_strI : CallD X (.type "str") (k1c fun d Q => asI (fun i => i.natAbs.log2 < 1920 ∧ Q (.str (toString i))) d) := by
  refine ⟨_, call_str_int, fun ds vs F H Qd Q e ps kk q => ?_⟩
  obtain ⟨d, rfl, q⟩ := k1c_inv q
  obtain ⟨v, rfl, pk⟩ := pks1 ps
  obtain ⟨i, rfl, q⟩ := asI_inv q
  cases pk.int
  exact ⟨i, rfl, q.1, kk _ _ F H (.refl e) (.str _) q.2⟩
theorem cd_int1 : CallD X (.type "int") (k1c fun d Q => match d with
    | .int i => Q (.int i)
    | .bl k => Q (.int (if k then 1 else 0))
    | _ => False) := by
  refine ⟨_, call_int1, fun ds vs F H Qd Q e ps kk q => ?_⟩
  obtain ⟨d, rfl, q⟩ := k1c_inv q
  obtain ⟨v, rfl, pk⟩ := pks1 ps
  cases d <;> first | exact False.elim q | skip
  · cases pk.bl; exact .inr ⟨_, rfl, kk _ _ F H (.refl e) (.int _) q⟩
  · cases pk.int; exact .inl ⟨_, rfl, kk _ _ F H (.refl e) (.int _) q⟩
end
end Dl

/-! The D-layer, part 4: isinstance, defs called, fields, methods. -/
namespace Dl
open PySem PySem.Spec
open PyProof.Rows L2
section
variable {X : Cx} {W : WX} {e a b c : Expr} {es : List Expr} {t ta tb tc : TD} {ts : TDs} {pos : Pos}
/-! ### isinstance -/
/-- a built-in type's name of a tree -/
def tyN : D → Option String
  | .non => some "NoneType"
  | .bl _ => some "bool"
  | .int _ => some "int"
  | .str _ => some "str"
  | .tup _ => some "tuple"
  | .lst _ => some "list"
  | .frl _ => some "list"
  | .dic _ => some "dict"
  | _ => none
theorem tyx_of {K : PySem.W.Frag} {H : Hp} {d : D} {v : V} {n : String} (r : Rep K H d v) (h : tyN d = some n) : TyX K H v (.type n) := by
  cases r with
  | non => cases h; exact .base .non
  | bl b => cases h; exact .base (.bl b)
  | int i => cases h; exact .base (.int i)
  | str x => cases h; exact .base (.str x)
  | ty n => cases h
  | cls C => cases h
  | ob v => cases h
  | tup s l r =>
    cases h
    exact .base (.tup s)
  | lst s l r => cases h; exact .base (.lst s)
  | frl s l r =>
    cases h
    rcases s with (s | ⟨o, s⟩) | ⟨o, its, n, k, c, _⟩
    · exact .base (.lst s)
    · exact .base (.frz s)
    · exact .kList k c
  | ins s r => cases h
  | dic s r => cases h; exact .base (.dK s)
/-- whether a tree is of a built-in type, for the types that are asked for -/
def isB (x : D) (n : String) : Option Bool := (tyN x).bind fun m => kitB m n
/-- what isinstance asks of the text about a class of its own -/
structure InsTy (K : PySem.W.Frag) (C : Addr) : Prop where
  cl : Cls K C
  ha : PySem.W.findIn K (.ref C) "__class__" = some (some (.builtin "object.__class__"))
  hn : PySem.W.specialIn K (.builtin "object.__class__") "__get__" = some (some (.builtin "getset_descriptor.__get__"))
  htk : PySem.W.takesIn K (.builtin "object.__class__") = some true
  hm : PySem.W.mroIn K C (.type "object") = some true
def kIsi (K : PySem.W.Frag) : KC := k2c fun x c Q => match c with
  | .ty n => (match x with
    | .ins C _ => InsTy K C ∧ asO (fun b => Q (.bl b)) (PySem.W.kitOne K (.ref C) (.type n))
    | x => asO (fun b => Q (.bl b)) (isB x n))
  | .cls C' => (match x with
    | .ins C _ => InsTy K C ∧ asO (fun b => Q (.bl b)) (PySem.W.kitOne K (.ref C) (.ref C'))
    | x => asO (fun m => asO (fun b => Q (.bl b)) (PySem.W.kitOne K (.type m) (.ref C'))) (tyN x))
  | _ => False
theorem isi_run {K : PySem.W.Frag} {F H : Hp} {x c : D} {vx vc : V} {t u : Value} {b : Bool} {Qd : EQ} {Q : VK} (e : Same F H) (ty : TyX K H vx t) (cv : ClsV vc u) (k : PySem.W.kitOne K t u = some b)
    (kk : ∀ d v F' H', Go F H F' H' → Rep K F' d v → Qd d → Q v H') (q : Qd (.bl b)) : rIsi K [vx, vc] H Q := ⟨vx, vc, t, u, b, rfl, cv, ty, k, kk _ _ F H (.refl e) (.bl _) q⟩
theorem cd_isi {K : PySem.W.Frag} (hK : X.K = K := by rfl) : CallD X (.builtin "isinstance") (kIsi K) := by
  subst hK
  refine ⟨_, call_isi, fun ds vs F H Qd Q e ps kk q => ?_⟩
  obtain ⟨x, c, rfl, q⟩ := k2c_inv q
  obtain ⟨vx, vc, rfl, px, pc⟩ := pks2 ps
  have rx := px.rep e
  have rc := pc.rep e
  have base : ∀ {u : Value}, ClsV vc u → ∀ {m : String} {b : Bool}, tyN x = some m → PySem.W.kitOne X.K (.type m) u = some b → Qd (.bl b) → rIsi X.K [vx, vc] H Q := fun cv m b h1 h2 h3 => isi_run (x := x) (c := c) e (tyx_of rx h1) cv h2 kk h3
  have own : ∀ {u : Value}, ClsV vc u → ∀ {C : Addr} {fs : List (Str × D)} {b : Bool}, x = .ins C fs → InsTy X.K C → PySem.W.kitOne X.K (.ref C) u = some b → Qd (.bl b) → rIsi X.K [vx, vc] H Q := fun cv C fs b h1 i h2 h3 => by
    subst h1
    cases rx with
    | ins s r => exact isi_run (x := .ins C fs) (c := c) e (.base (.ins s i.cl i.ha i.hn i.htk i.hm)) cv h2 kk h3
  cases c <;> first | exact False.elim q | skip
  · cases rc
    rename_i n _
    have cv := ClsV.ty n
    by_cases hx : ∃ C fs, x = .ins C fs
    · obtain ⟨C, fs, rfl⟩ := hx
      obtain ⟨i, q⟩ := q
      obtain ⟨b, h1, h2⟩ := asO_inv q
      exact own cv rfl i h1 h2
    · have q' : asO (fun b => Qd (.bl b)) (isB x n) := by
        cases x <;> first | exact q | exact absurd ⟨_, _, rfl⟩ hx
      obtain ⟨b, h1, h2⟩ := asO_inv q'
      obtain ⟨m, h3, h4⟩ := Option.bind_eq_some_iff.mp h1
      exact base cv h3 (kit_ty h4) h2
  · cases rc
    rename_i C' _
    have cv := ClsV.own C'
    by_cases hx : ∃ C fs, x = .ins C fs
    · obtain ⟨C, fs, rfl⟩ := hx
      obtain ⟨i, q⟩ := q
      obtain ⟨b, h1, h2⟩ := asO_inv q
      exact own cv rfl i h1 h2
    · have q' : asO (fun m => asO (fun b => Qd (.bl b)) (PySem.W.kitOne X.K (.type m) (.ref C'))) (tyN x) := by
        cases x <;> first | exact q | exact absurd ⟨_, _, rfl⟩ hx
      obtain ⟨m, h1, h2⟩ := asO_inv q'
      obtain ⟨b, h3, h4⟩ := asO_inv h2
      exact base cv h1 h3 h4

/-! ### defs -/
/-- what a def promises, by trees: the arguments, what is wanted of its value, of an exception -/
abbrev DF := List D → EQ → EQ → Prop
def spD (K : PySem.W.Frag) (n : Nat) (G : DF) : Sp := fun vs H Q E => ∃ (ds : List D) (F : Hp) (Qd Ed : EQ), Same F H ∧ Reps K F ds vs ∧ ds.length = n ∧ G ds Qd Ed ∧
  (∀ d v F' H', Go F H F' H' → Rep K F' d v → Qd d → Q v H') ∧ (∀ x cls dx F' H', Go F H F' H' → XRep K F' H' x cls dx → Ed x → E cls dx H')
/-- a def of the text as it stands, with its promise -/
structure FD (P : Program) (w : World) (K : PySem.W.Frag) (mg : Str → Option Value) (base : Heap) (k : Nat) (f : Addr) (n : Nat) (dd : List D) (G : DF) : Prop where
  ok : ∃ (fd : FuncData) (ps : List Str) (dvs : List V) (ds : List Value), FnOk P w K mg base (L2.CX P w) k f fd ps (spD K n G) ∧ Binds K fd ps ds ∧ Vals dvs ds ∧ (∀ F, Reps K F dd dvs)
  kp : PySem.W.keepIn K (.ref f) = true
def dCall (n : Nat) (dd : List D) (G : DF) (ts : TDs) : TD := fun ρ Q E => ts ρ (fun ds => (ds ++ dd).length = n ∧ G (ds ++ dd) Q E) E
theorem call_run {K : PySem.W.Frag} {n : Nat} {dd : List D} {G : DF} {ts : TDs} {ta : TA} {dvs : List V} {ρ : Env'} {σ : L2.St} {F H : Hp} {Qd E : EQ} {Q : VK}
    (h2 : ∀ (ρ : Env') (σ : L2.St) (F H : Hp) (Qd : List D → Prop) (E : EQ) (Q : List V → Hp → Prop), Rl K ρ σ F H → XP K W σ F H E → (∀ ds vs F' H', Go F H F' H' → Reps K F' ds vs → Qd ds → Q vs H') → ts ρ Qd E → ta σ H Q)
    (hd : ∀ F, Reps K F dd dvs) (rl : Rl K ρ σ F H) (xp : XP K W σ F H E) (kk : ∀ d v F' H', Go F H F' H' → Rep K F' d v → Qd d → Q v H') (q : dCall n dd G ts ρ Qd E) : tCallSD (spD K n G) dvs (WE W) ta σ H Q := by
  refine h2 ρ σ F H _ E _ rl xp (fun ds vs F1 H1 g1 r1 q1 => ?_) q
  exact ⟨ds ++ dd, F1, Qd, E, g1.fh, r1.append (hd F1), q1.1, q1.2, fun d v F' H' g r qd => kk d v F' H' (g1.trans g) r qd, fun x cls dx F' H' g r ex => xp x cls dx F' H' (g1.trans g) r ex⟩
theorem re_call {k n : Nat} {f : Addr} {dd : List D} {G : DF} {x : Str} {p : Pos} (h : FD X.prog X.w X.K X.mg X.base k f n dd G) (hr : Room k X.A) (hm : X.mg x = some (.ref f)) (tk : Takes X W) (ha : RA X W (e :: es) ts)
    (hg : Gl X x := by rfl) (hdb : (x == ("__debug__" : Str)) = false := by decide) (he : starEach (e :: es) X.env = (false, eval e X.env) :: starEach es X.env := by rfl) (hpl : (backTo pos (starEach es X.env)).any (·.1) = false := by rfl) :
    RE X W (.Call (.Name x p) (e :: es) [] pos) (dCall n dd G ts) := by
  obtain ⟨fd, ps, dvs, dsv, F, bn, vl, hd⟩ := h.ok
  obtain ⟨ta, h1, h2⟩ := ha.run
  exact ⟨_, pe_callSD F hr hg hm h.kp bn vl (fun σ => passAt tk σ) h1 hdb he hpl, fun ρ σ F H Qd E Q rl xp kk q => call_run h2 hd rl xp kk q⟩

/-! ### fields -/
def FldOk (K : PySem.W.Frag) (C : Addr) (f : Str) : Prop := Cls K C ∧ NoAttr K C f
def dFld (K : PySem.W.Frag) (f : Str) (t : TD) : TD := fun ρ Q E => t ρ (fun x => match x with
  | .ins C fs => FldOk K C f ∧ asO Q (fs.lookup f)
  | _ => False) E
theorem re_fld {K : PySem.W.Frag} {f : Str} (he : RE X W e t) (hK : X.K = K := by rfl) (hb : attributeBase e f X.env (eval e X.env) = eval e X.env := by rfl) : RE X W (.Attribute e f pos) (dFld K f t) := by
  subst hK
  obtain ⟨te, h1, h2⟩ := he.run
  refine ⟨_, pe_fld h1 hb, fun ρ σ F H Qd E Q rl xp kk q => h2 ρ σ F H _ E _ rl xp (fun x vx F1 H1 g1 r1 q1 => ?_) q⟩
  cases x <;> first | exact False.elim q1 | skip
  cases r1 with
  | ins s r =>
    obtain ⟨d, h3, h4⟩ := asO_inv q1.2
    obtain ⟨v, h5, h6⟩ := r.look h3
    exact ⟨_, _, _, _, v, rfl, g1.fh _ _ s, q1.1.1, q1.1.2, h5, kk _ _ F1 H1 g1 h6 h4⟩
/-- a field of an instance that is being made -/
def dFldS (K : PySem.W.Frag) (f : Str) (i : Nat) : TD := fun ρ Q E => match ρ[i]? with
  | some (.oi C fs) => FldOk K C.1 f ∧ asO Q (fs.lookup f)
  | some (.sh (.ins C fs)) => FldOk K C f ∧ asO Q (fs.lookup f)
  | _ => False
theorem re_fldS {K : PySem.W.Frag} {f : Str} (i : Nat) {x : Str} {p : Pos} (hN : X.N[i]? = some x := by rfl) (hv : Vis X.env.scope x := by first | exact Or.inl rfl | exact Or.inr (Or.inl rfl) | exact Or.inr (Or.inr rfl)) (hd : (x == ("__debug__" : Str)) = false := by decide) (hcd : (x == ("__classdict__" : Str)) = false := by decide)
    (hK : X.K = K := by rfl) (hb : attributeBase (.Name x p) f X.env (eval (.Name x p) X.env) = eval (.Name x p) X.env := by rfl) : RE X W (.Attribute (.Name x p) f pos) (dFldS K f i) := by
  subst hK
  refine ⟨_, pe_fld (pe_var hN hv hd hcd) hb, fun ρ σ F H Qd E Q rl xp kk q => ?_⟩
  unfold dFldS at q
  split at q
  · rename_i C fs hq
    obtain ⟨p, dx, vs, h1, h2, h3, h4, -⟩ := rl.oi i C fs hq
    obtain ⟨d, h5, h6⟩ := asO_inv q.2
    obtain ⟨v, h7, h8⟩ := h4.look h5
    exact ⟨_, h1, p, C.1, dx, vs, v, rfl, h2, q.1.1, q.1.2, h7, kk _ _ F H (.refl rl.fh) h8 h6⟩
  · rename_i C fs hq
    obtain ⟨u, h1, h2⟩ := rl.sh i _ hq
    cases h2 with
    | ins s r =>
      obtain ⟨d, h5, h6⟩ := asO_inv q.2
      obtain ⟨v, h7, h8⟩ := r.look h5
      exact ⟨_, h1, _, C, _, _, v, rfl, rl.fh _ _ s, q.1.1, q.1.2, h7, kk _ _ F H (.refl rl.fh) h8 h6⟩
  · exact q.elim

/-! ### methods of one's own classes -/
/-- a method (not raised at the slots alone): the receiver, the arguments -/
def tMethS (C : Addr) (m : Str) (sp : Sp) (E : L2.St → XK) (ta : TE) (u : TA) : TE := fun σ H Q => ta σ H fun x H1 => ∃ (a dx : Addr) (fs : List (Str × V)), x = .ref a ∧ H1 a = some (.ins C dx fs) ∧ fs.lookup m = none ∧
  u σ H1 fun vs H2 => sp (x :: vs) H2 Q (E σ)
theorem pe_methS {CX : CXT} {k : Nat} {f C : Addr} {fd : FuncData} {ps : List Str} {sp : Sp} {E : L2.St → XK} {m : Str} {apos : Pos} {o : Expr} {te : TE} {u : TA} {pl : Sem Bool}
    (he : PE X o te) (c : Cls X.K C) (hm : Meth X.K C m f) (F : FnOk X.prog X.w X.K X.mg X.base CX k f fd ps sp) (hr : Room k X.A) (hb : Binds X.K fd ps []) (hx : ∀ σ, PassesAt CX X σ (E σ)) (ha : PA X (e :: es) u)
    (hst : starEach (e :: es) X.env = (false, eval e X.env) :: starEach es X.env) (hpl : (backTo pos (starEach es X.env)).any (·.1) = false)
    (ht : eval (.Call (.Attribute o m apos) (e :: es) [] pos) X.env = (eval o X.env >>= fun ov => standAt apos.atName >>= fun _ => holding [ov] (getMethod ov m pl) >>= fun (g : Value × List Value) => callWith pos g.1 g.2 (backTo pos (starEach (e :: es) X.env)) (backToKw pos (keywordEach [] X.env)))) :
    PE X (.Call (.Attribute o m apos) (e :: es) [] pos) (tMethS C m sp E te u) := by
  refine ⟨fun pins s σ H Q I h => ?_⟩
  refine PySem.W.methodCall_KW (pl := pl) (thn (he.run pins s σ H _ I h) fun w s1 hh => ?_) ht
  obtain ⟨x, H1, I1, rx, a, dx, fs, ex, ea, l, q⟩ := hh
  subst ex
  obtain rfl : w = Value.ref a := rx
  refine getmeth_ok I1 ea c hm l ?_
  refine PySem.W.callWith_K (first := [.ref a]) (h₀ := X.base) I.ok.mod.kin hm.kp (thn (ha.run pos pins s1 σ H1 _ I1 q) fun us s2 hh2 => ?_) hst hpl
  obtain ⟨vs, H2, I2, r, q2⟩ := hh2
  exact ⟨I2.kIn, run_fnS (us := .ref a :: us) (vs := .ref a :: vs) F hr hb (hx σ) I2 (.cons rfl r) q2⟩
theorem pe_methS0 {CX : CXT} {k : Nat} {f C : Addr} {fd : FuncData} {ps : List Str} {sp : Sp} {E : L2.St → XK} {m : Str} {apos : Pos} {o : Expr} {te : TE} {pl : Sem Bool}
    (he : PE X o te) (c : Cls X.K C) (hm : Meth X.K C m f) (F : FnOk X.prog X.w X.K X.mg X.base CX k f fd ps sp) (hr : Room k X.A) (hb : Binds X.K fd ps []) (hx : ∀ σ, PassesAt CX X σ (E σ))
    (ht : eval (.Call (.Attribute o m apos) [] [] pos) X.env = (eval o X.env >>= fun ov => standAt apos.atName >>= fun _ => holding [ov] (getMethod ov m pl) >>= fun (g : Value × List Value) => callWith pos g.1 g.2 (backTo pos (starEach [] X.env)) (backToKw pos (keywordEach [] X.env)))) :
    PE X (.Call (.Attribute o m apos) [] [] pos) (tMethS C m sp E te tNil) := by
  refine ⟨fun pins s σ H Q I h => ?_⟩
  refine PySem.W.methodCall_KW (pl := pl) (thn (he.run pins s σ H _ I h) fun w s1 hh => ?_) ht
  obtain ⟨x, H1, I1, rx, a, dx, fs, ex, ea, l, q⟩ := hh
  subst ex
  obtain rfl : w = Value.ref a := rx
  refine getmeth_ok I1 ea c hm l ?_
  exact PySem.W.callWith_K0 (first := [.ref a]) I1.kIn hm.kp (run_fnS (us := [.ref a]) (vs := [.ref a]) F hr hb (hx σ) I1 (.cons rfl .nil) q)
/-- the receiver an instance of the class at C -/
def dMeth (C : Addr) (m : Str) (n : Nat) (G : DF) (t : TD) (ts : TDs) : TD := fun ρ Q E => t ρ (fun x => match x with
  | .ins C' fs => C' = C ∧ fs.lookup m = none ∧ ts ρ (fun ds => ds.length + 1 = n ∧ G (x :: ds) Q E) E
  | _ => False) E
theorem meth_run {K : PySem.W.Frag} {C : Addr} {m : Str} {n : Nat} {G : DF} {te : TE} {ta : TA} {ρ : Env'} {σ : L2.St} {F H : Hp} {Qd E : EQ} {Q : VK}
    (h1 : ∀ (ρ : Env') (σ : L2.St) (F H : Hp) (Qd E : EQ) (Q : VK), Rl K ρ σ F H → XP K W σ F H E → (∀ d v F' H', Go F H F' H' → Rep K F' d v → Qd d → Q v H') → t ρ Qd E → te σ H Q)
    (h2 : ∀ (ρ : Env') (σ : L2.St) (F H : Hp) (Qd : List D → Prop) (E : EQ) (Q : List V → Hp → Prop), Rl K ρ σ F H → XP K W σ F H E → (∀ ds vs F' H', Go F H F' H' → Reps K F' ds vs → Qd ds → Q vs H') → ts ρ Qd E → ta σ H Q)
    (rl : Rl K ρ σ F H) (xp : XP K W σ F H E) (kk : ∀ d v F' H', Go F H F' H' → Rep K F' d v → Qd d → Q v H') (q : dMeth C m n G t ts ρ Qd E) : tMethS C m (spD K n G) (WE W) te ta σ H Q := by
  refine h1 ρ σ F H _ E _ rl xp (fun x vx F1 H1 g1 r1 q1 => ?_) q
  cases x <;> first | exact False.elim q1 | skip
  obtain ⟨rfl, q2, q3⟩ := q1
  cases id r1 with
  | ins s r =>
    refine ⟨_, _, _, rfl, g1.fh _ _ s, r.none q2, ?_⟩
    refine h2 ρ σ F1 H1 _ E _ (rl.go g1) (xp.go g1) (fun ds vs F2 H2 g2 r2 q4 => ?_) q3
    exact ⟨_ :: ds, F2, Qd, E, g2.fh, .cons (r1.mono g2.ff) r2, q4.1, q4.2, fun d v F' H' g r qd => kk d v F' H' ((g1.trans g2).trans g) r qd, fun x cls dx F' H' g r ex => xp x cls dx F' H' ((g1.trans g2).trans g) r ex⟩
/-- a def without defaults -/
structure FN (P : Program) (w : World) (K : PySem.W.Frag) (mg : Str → Option Value) (base : Heap) (k : Nat) (f : Addr) (n : Nat) (G : DF) : Prop where
  ok : ∃ (fd : FuncData) (ps : List Str), FnOk P w K mg base (L2.CX P w) k f fd ps (spD K n G) ∧ Binds K fd ps []
  kp : PySem.W.keepIn K (.ref f) = true
theorem FN.d {P : Program} {w : World} {K : PySem.W.Frag} {mg : Str → Option Value} {base : Heap} {k n : Nat} {f : Addr} {G : DF} (h : FN P w K mg base k f n G) : FD P w K mg base k f n [] G := by
  obtain ⟨fd, ps, F, b⟩ := h.ok
  exact ⟨⟨fd, ps, [], [], F, b, .nil, fun _ => .nil⟩, h.kp⟩
theorem re_meth {k n : Nat} {f C : Addr} {G : DF} {m : Str} {apos : Pos} {o : Expr} {pl : Sem Bool} (he : RE X W o t) (c : Cls X.K C) (hm : Meth X.K C m f) (h : FN X.prog X.w X.K X.mg X.base k f n G) (hr : Room k X.A) (tk : Takes X W) (ha : RA X W (e :: es) ts)
    (hst : starEach (e :: es) X.env = (false, eval e X.env) :: starEach es X.env := by rfl) (hpl : (backTo pos (starEach es X.env)).any (·.1) = false := by rfl)
    (ht : eval (.Call (.Attribute o m apos) (e :: es) [] pos) X.env = (eval o X.env >>= fun ov => standAt apos.atName >>= fun _ => holding [ov] (getMethod ov m pl) >>= fun (g : Value × List Value) => callWith pos g.1 g.2 (backTo pos (starEach (e :: es) X.env)) (backToKw pos (keywordEach [] X.env))) := by rfl) :
    RE X W (.Call (.Attribute o m apos) (e :: es) [] pos) (dMeth C m n G t ts) := by
  obtain ⟨fd, ps, F, bn⟩ := h.ok
  obtain ⟨te, h1, h2⟩ := he.run
  obtain ⟨ta, a1, a2⟩ := ha.run
  exact ⟨_, pe_methS (pl := pl) h1 c hm F hr bn (fun σ => passAt tk σ) a1 hst hpl ht, fun ρ σ F H Qd E Q rl xp kk q => meth_run h2 a2 rl xp kk q⟩
theorem re_meth0 {k n : Nat} {f C : Addr} {G : DF} {m : Str} {apos : Pos} {o : Expr} {pl : Sem Bool} (he : RE X W o t) (c : Cls X.K C) (hm : Meth X.K C m f) (h : FN X.prog X.w X.K X.mg X.base k f n G) (hr : Room k X.A) (tk : Takes X W)
    (ht : eval (.Call (.Attribute o m apos) [] [] pos) X.env = (eval o X.env >>= fun ov => standAt apos.atName >>= fun _ => holding [ov] (getMethod ov m pl) >>= fun (g : Value × List Value) => callWith pos g.1 g.2 (backTo pos (starEach [] X.env)) (backToKw pos (keywordEach [] X.env))) := by rfl) :
    RE X W (.Call (.Attribute o m apos) [] [] pos) (dMeth C m n G t dNil) := by
  obtain ⟨fd, ps, F, bn⟩ := h.ok
  obtain ⟨te, h1, h2⟩ := he.run
  exact ⟨_, pe_methS0 (pl := pl) h1 c hm F hr bn (fun σ => passAt tk σ) ht, fun ρ σ F H Qd E Q rl xp kk q => meth_run (ta := tNil) h2 (fun ρ σ F H Qd E Q rl xp kk q => kk [] [] F H (.refl rl.fh) .nil q) rl xp kk q⟩
/-- one of two readings (a receiver of one of two classes) -/
theorem RE.or {t' : TD} (h : RE X W e t) (h' : RE X W e t') : RE X W e (fun ρ Q E => t ρ Q E ∨ t' ρ Q E) := by
  obtain ⟨te, h1, h2⟩ := h.run
  obtain ⟨te', h1', h2'⟩ := h'.run
  refine ⟨fun σ H Q => te σ H Q ∨ te' σ H Q, ⟨fun pins s σ H Q I hw => hw.elim (h1.run pins s σ H Q I) (h1'.run pins s σ H Q I)⟩, fun ρ σ F H Qd E Q rl xp kk q => ?_⟩
  exact q.elim (fun z => .inl (h2 ρ σ F H Qd E Q rl xp kk z)) fun z => .inr (h2' ρ σ F H Qd E Q rl xp kk z)
end
end Dl

/-! The D-layer, part 5: zip of any two of lists and tuples. -/
namespace Dl
open PySem PySem.Spec
open PyProof.Rows L2
/-- a list (true) or a tuple (false) -/
def SqA (k : Bool) (K : PySem.W.Frag) (H : Hp) (a : Addr) (xs : List V) : Prop := match k with
  | true => SqL K H a xs
  | false => SqT K H a xs
def ItA (k : Bool) (h : Heap) (it a : Addr) (i : Nat) : Prop := match k with
  | true => h.IsListIter it a i
  | false => h.IsTupleIter it a i
def ObA (k : Bool) (h : Heap) (a : Addr) (xs : Array Value) : Prop := match k with
  | true => h.IsList a xs
  | false => h.IsTuple a xs
theorem drawsA {prog : Program} {w : World} {A : Around} (k : Bool) (hh : A.handled = none) (it l : Addr) (ne : l ≠ it) (its : Array Value) :
    Draws prog w A it [it, l] its.size (fun i v => its[i]? = some v) (fun i h => ItA k h it l i ∧ ObA k h l its) := by
  cases k
  · exact Draws.tuple hh it l ne its
  · exact Draws.list hh it l ne its
theorem ItA.there {k : Bool} {h : Heap} {it a : Addr} {i : Nat} (x : ItA k h it a i) : ∃ o, h.get? it = some o ∧ ∀ v, o.data ≠ .cell v := by
  cases k
  · obtain ⟨o, e, _, d⟩ := (show h.IsTupleIter it a i from x); exact ⟨o, e, fun v q => by rw [d] at q; cases q⟩
  · obtain ⟨o, e, _, d⟩ := (show h.IsListIter it a i from x); exact ⟨o, e, fun v q => by rw [d] at q; cases q⟩
theorem ItA.at' {k : Bool} {h h' : Heap} {it a : Addr} {i : Nat} (x : ItA k h it a i) (f : ∀ o, h.get? it = some o → h'.get? it = some o) : ItA k h' it a i := by
  cases k
  · exact (show h.IsTupleIter it a i from x).at f
  · exact (show h.IsListIter it a i from x).at f
section
variable {X : Cx} {pins : List (Addr × Obj)} {σ : L2.St} {H : Hp} {s : Shared} {a : Addr} {xs ys : List V} {k : Bool}
theorem inv_seq (I : Inv X pins σ H s) (h : SqA k X.K H a xs) : ∃ its : List Value, Vals xs its ∧ ObA k s.heap a its.toArray ∧ a < s.heap.objs.size := by
  cases k
  · obtain ⟨its, r, p, _⟩ := I.tuple (show SqT X.K H a xs from h)
    exact ⟨its, r, p, p.lt⟩
  · obtain ⟨its, r, p, _⟩ := I.list (show SqL X.K H a xs from h)
    exact ⟨its, r, p.isList, p.lt⟩
theorem inv_seq_inj (I : Inv X pins σ H s) (h : SqA k X.K H a xs) (h' : SqA k X.K H a ys) : xs = ys := by
  cases k
  · exact I.tuple_inj h h'
  · exact I.list_inj h h'
end
/-- the turns of a zip: while both stand, a new pair -/
def ItzA (k1 k2 : Bool) (K : PySem.W.Frag) (a b : Addr) : It where
  go := fun i H => ∃ (xs ys : List V) (x y : V), SqA k1 K H a xs ∧ SqA k2 K H b ys ∧ xs[i]? = some x ∧ ys[i]? = some y
  yld := fun i H v H' => ∃ (T : Addr) (x y : V), v = .ref T ∧ H T = none ∧ H' = upd H T (.tup [x, y]) ∧ (∀ xs, SqA k1 K H a xs → xs[i]? = some x) ∧ (∀ ys, SqA k2 K H b ys → ys[i]? = some y)
  stop := fun i H => ∃ xs ys : List V, SqA k1 K H a xs ∧ SqA k2 K H b ys ∧ i ≤ xs.length ∧ i ≤ ys.length ∧ (i = xs.length ∨ i = ys.length)
theorem turn_zipM {P : Program} {w : World} {K : PySem.W.Frag} {k1 k2 : Bool} {elts : List Expr} {kk : Nat} {tpos : Pos} {a b z TI TO i1 i2 : Addr} (S : ZipSep2 z TI TO i1 i2 [i1, a] [i2, b]) (na : a ≠ i1) (nb : b ≠ i2) :
    Turn P w K (.Tuple elts kk tpos) (ItzA k1 k2 K a b) [z, TI, TO, i1, i2] z (fun i h => IsZip h z TI TO .none ∧ IsTupOf2 h TI (.ref i1) (.ref i2) ∧ (∃ x y, IsTupOf2 h TO x y) ∧ ItA k1 h i1 a i ∧ ItA k2 h i2 b i) where
  mem := by simp
  obj := by
    rintro i h ⟨hz, hTI, ⟨x, y, hTO⟩, h1, h2⟩ c hc
    have cs : c = z ∨ c = TI ∨ c = TO ∨ c = i1 ∨ c = i2 := by simpa using hc
    rcases cs with rfl | rfl | rfl | rfl | rfl
    · exact ⟨_, hz, fun v q => nomatch q⟩
    · exact ⟨_, hTI, fun v q => nomatch q⟩
    · exact ⟨_, hTO, fun v q => nomatch q⟩
    · exact h1.there
    · exact h2.there
  keep := by
    rintro i h h' ⟨hz, hTI, ⟨x, y, hTO⟩, h1, h2⟩ kp
    exact ⟨kp z (by simp) _ hz, kp TI (by simp) _ hTI, ⟨x, y, kp TO (by simp) _ hTO⟩, h1.at' (kp i1 (by simp)), h2.at' (kp i2 (by simp))⟩
  item := by
    intro X hP hw hK hc i pins s σ H E I hf st hg
    subst hP hw hK
    obtain ⟨hz, hTI, ⟨x0, y0, hTO⟩, h1, h2⟩ := st
    obtain ⟨xs, ys, x, y, sx, sy, hx, hy⟩ := hg
    obtain ⟨its, rv, ob, _⟩ := inv_seq I sx
    obtain ⟨its2, rv2, ob2, _⟩ := inv_seq I sy
    have zl : z < s.heap.objs.size := Heap.lt_size hz
    have lx : i < its.toArray.size := by
      have := (List.getElem?_eq_some_iff.mp hx).1
      rw [List.size_toArray, ← rv.length]; exact this
    have ly : i < its2.toArray.size := by
      have := (List.getElem?_eq_some_iff.mp hy).1
      rw [List.size_toArray, ← rv2.length]; exact this
    have hh := I.ok.hd hc
    have D1 := drawsA (prog := X.prog) (w := X.w) (A := X.A.in1) k1 hh i1 a na its.toArray
    have D2 := drawsA (prog := X.prog) (w := X.w) (A := X.A.in1) k2 hh i2 b nb its2.toArray
    refine wpAny_pyNext_zipD2_item S D1 D2 hz hTI hTO ⟨h1, ob⟩ ⟨h2, ob2⟩ lx ly ?_
    intro u u2 h' tk pu pu2 z' TO' d1 d2 hT hsz hk
    obtain ⟨w1, e1, ru⟩ := rv.get hx
    obtain ⟨w2, e2, ru2⟩ := rv2.get hy
    have q1 : w1 = u := by
      have pu : its.toArray[i]? = some u := pu
      rw [List.getElem?_toArray, e1] at pu
      exact Option.some.inj pu
    have q2 : w2 = u2 := by
      have pu2 : its2.toArray[i]? = some u2 := pu2
      rw [List.getElem?_toArray, e2] at pu2
      exact Option.some.inj pu2
    subst q1; subst q2
    refine ⟨_, rfl, wpAny_letOwnedTupleGo_zip (s := { s with heap := h', toks := tk }) z' fun h'' z'' sb => ?_⟩
    have hT2 := (sb.2 _ (Nat.ne_of_gt zl)).trans hT
    have new : ObjOk X.prog X.w (upd H s.heap.objs.size (.tup [x, y])) h'' s.heap.objs.size (.tup [x, y]) :=
      ⟨by show 2 ≤ sizeLine; decide, [w1, w2], .cons ru (.cons ru2 .nil), _, hT2, rfl, _, rfl⟩
    have kp : ∀ c o, c ∉ [z, TI, TO, i1, i2] → s.heap.get? c = some o → h''.get? c = some o := fun c o nc e => by
      simp only [List.mem_cons, List.not_mem_nil, or_false, not_or] at nc
      exact (sb.2 c nc.1).trans (hk c o nc.1 nc.2.2.1 nc.2.2.2.1 nc.2.2.2.2 e)
    have I1 := I.turnedNew (t' := tk) (ch := [z, TI, TO, i1, i2]) kp hf (Nat.le_refl _) new
    refine ⟨.ref s.heap.objs.size, _, I1, rfl, ⟨_, x, y, rfl, I.hok.fresh (Nat.le_refl _), rfl, fun l hl => ?_, fun l hl => ?_⟩, ⟨z'', ?_, ⟨w1, w2, ?_⟩, ?_, ?_⟩, fun c hcm => ?_⟩
    · rw [inv_seq_inj I hl sx]; exact hx
    · rw [inv_seq_inj I hl sy]; exact hy
    · exact (sb.2 _ S.TIz).trans (hk _ _ S.TIz S.TITO S.TIi1 S.TIi2 hTI)
    · exact (sb.2 _ S.TOz).trans TO'
    · exact d1.1.at' fun o q => (sb.2 _ S.zi1.symm).trans q
    · exact d2.1.at' fun o q => (sb.2 _ S.zi2.symm).trans q
    · have lt : c < s.heap.objs.size := by
        have cs : c = z ∨ c = TI ∨ c = TO ∨ c = i1 ∨ c = i2 := by simpa using hcm
        rcases cs with rfl | rfl | rfl | rfl | rfl
        · exact zl
        · exact Heap.lt_size hTI
        · exact Heap.lt_size hTO
        · obtain ⟨_, e, _⟩ := h1.there; exact Heap.lt_size e
        · obtain ⟨_, e, _⟩ := h2.there; exact Heap.lt_size e
      rw [upd_ne (Nat.ne_of_lt lt)]
      exact (hf c hcm).1
  done := by
    intro X hP hw hK hc i pins s σ H E I hf st hg
    subst hP hw hK
    obtain ⟨hz, hTI, ⟨x0, y0, hTO⟩, h1, h2⟩ := st
    obtain ⟨xs, ys, sx, sy, l1, l2, fin⟩ := hg
    obtain ⟨its, rv, ob, _⟩ := inv_seq I sx
    obtain ⟨its2, rv2, ob2, _⟩ := inv_seq I sy
    have z1 : its.toArray.size = xs.length := by rw [List.size_toArray, ← rv.length]
    have z2 : its2.toArray.size = ys.length := by rw [List.size_toArray, ← rv2.length]
    have hh := I.ok.hd hc
    have D1 := drawsA (prog := X.prog) (w := X.w) (A := X.A.in1) k1 hh i1 a na its.toArray
    have D2 := drawsA (prog := X.prog) (w := X.w) (A := X.A.in1) k2 hh i2 b nb its2.toArray
    refine wpAny_pyNext_zipD2_end S D1 D2 hz hTI hTO ⟨h1, ob⟩ ⟨h2, ob2⟩ (by omega) (by omega) (by omega) fun h' tk hk => ⟨rfl, ?_⟩
    refine I.turnedL (t' := tk) (ch := [z, TI, TO, i1, i2]) (fun c o nc e => ?_) hf
    simp only [List.mem_cons, List.not_mem_nil, or_false, not_or] at nc
    exact hk c o nc.1 nc.2.2.1 nc.2.2.2.1 nc.2.2.2.2 e
  self := fun A i s Q E st h => wpAny_pyIter_zip st.1 h
theorem zip_callA {prog : Program} {w : World} {A : Around} {E : Value → Shared → Prop} {s : Shared} {Q : Value → Shared → Prop} {k1 k2 : Bool} {a b : Addr} {its its2 : Array Value} (h1 : ObA k1 s.heap a its) (h2 : ObA k2 s.heap b its2)
    (h : ∀ h' : Heap, IsZip h' (s.heap.objs.size + 4) (s.heap.objs.size + 2) (s.heap.objs.size + 3) .none → IsTupOf2 h' (s.heap.objs.size + 2) (.ref s.heap.objs.size) (.ref (s.heap.objs.size + 1)) →
      IsTupOf2 h' (s.heap.objs.size + 3) .none .none → ItA k1 h' s.heap.objs.size a 0 → ItA k2 h' (s.heap.objs.size + 1) b 0 →
      (∀ c o, s.heap.get? c = some o → h'.get? c = some o) → Q (.ref (s.heap.objs.size + 4)) { s with heap := h' }) :
    wpAny (model prog w) A (call (.type "zip") [.ref a, .ref b]) Q E s := by
  cases k1 <;> cases k2
  · exact zip_begins2 (begins_tuple a its) (begins_tuple b its2) h1 h2 fun h' q1 q2 q3 q4 q5 _ q7 => h h' q1 q2 q3 ⟨_, q4, rfl, rfl⟩ ⟨_, q5, rfl, rfl⟩ q7
  · exact zip_begins2 (begins_tuple a its) (begins_list b its2) h1 h2 fun h' q1 q2 q3 q4 q5 _ q7 => h h' q1 q2 q3 ⟨_, q4, rfl, rfl⟩ ⟨_, q5, rfl, rfl⟩ q7
  · exact zip_begins2 (begins_list a its) (begins_tuple b its2) h1 h2 fun h' q1 q2 q3 q4 q5 _ q7 => h h' q1 q2 q3 ⟨_, q4, rfl, rfl⟩ ⟨_, q5, rfl, rfl⟩ q7
  · exact zip_begins2 (begins_list a its) (begins_list b its2) h1 h2 fun h' q1 q2 q3 q4 q5 _ q7 => h h' q1 q2 q3 ⟨_, q4, rfl, rfl⟩ ⟨_, q5, rfl, rfl⟩ q7
theorem sepA (n a b : Nat) (la : a < n) (lb : b < n) : ZipSep2 (n + 4) (n + 2) (n + 3) n (n + 1) [n, a] [n + 1, b] := by
  constructor <;> first
    | (show ((_ : Nat) ≠ _); omega)
    | (simp; done)
    | (simp; (first | omega | (intro h; exact absurd h (by omega))))
    | (intro h; rcases List.mem_cons.mp h with h | h
       · exact absurd (show (_ : Nat) = _ from h) (by omega)
       · rcases List.mem_cons.mp h with h | h
         · exact absurd (show (_ : Nat) = _ from h) (by omega)
         · cases h)
theorem leA (n c : Nat) (h : c ∈ [n + 4, n + 2, n + 3, n, n + 1]) : n ≤ c := by
  simp only [List.mem_cons, List.not_mem_nil, or_false] at h
  omega
def iZipM (K : PySem.W.Frag) (ta : TA) : TI := fun σ H R => ta σ H fun vs H1 => ∃ (k1 k2 : Bool) (a b : Addr) (xs ys : List V), vs = [.ref a, .ref b] ∧ SqA k1 K H1 a xs ∧ SqA k2 K H1 b ys ∧ R (ItzA k1 k2 K a b) H1
theorem pi_zipM {X : Cx} {e e2 : Expr} {ta : TA} {p pos tpos : Pos} {elts : List Expr} {kk : Nat} (hg : Gl X "zip") (hm : X.mg "zip" = none) (ha : PA X [e, e2] ta)
    (hs : starEach [e, e2] X.env = (false, eval e X.env) :: starEach [e2] X.env) (hpl : (backTo pos (starEach [e2] X.env)).any (·.1) = false) :
    PI X (.Tuple elts kk tpos) (.Call (.Name "zip" p) [e, e2] [] pos) (iZipM X.K ta) := by
  refine ⟨fun pins s σ H R I h => ?_⟩
  refine Call_ (ld_blt I hg hm PyProof.Rows.boot_zip (PyProof.Rows.callWith_type1 (thn (ha.run pos pins s σ H _ I h) ?_) hs hpl))
  · rintro us s1 ⟨vs, H1, I1, r1, k1, k2, a, b, xs, ys, rfl, sx, sy, q⟩
    obtain ⟨u1, u2, rfl, ra, rb⟩ := vals2 r1
    cases ra; cases rb
    obtain ⟨its, rv, ob, la⟩ := inv_seq I1 sx
    obtain ⟨its2, rv2, ob2, lb⟩ := inv_seq I1 sy
    refine zip_callA ob ob2 fun h' hz hTI hTO h1 h2 hk => wpAny_pyIter_zip hz ?_
    have I2 : Inv X pins σ H1 { s1 with heap := h' } := I1.kept (t' := s1.toks) hk
    have S := sepA s1.heap.objs.size a b la lb
    refine ⟨s1.heap.objs.size + 4, _, _, _, H1, rfl, I2, turn_zipM S (Nat.ne_of_lt la) (Nat.ne_of_lt (Nat.lt_succ_of_lt lb)), ⟨hz, hTI, ⟨_, _, hTO⟩, h1, h2⟩, fun c hcm => ?_, q⟩
    have le : s1.heap.objs.size ≤ c := leA _ _ hcm
    exact I1.fpOk le (I1.hok.fresh le)
/-- n turns of such a zip -/
theorem walk_zipM {K : PySem.W.Frag} {k1 k2 : Bool} {a b : Addr} {xs ys : List V} : Walk (ItzA k1 k2 K a b) (min xs.length ys.length) (fun H => SqA k1 K H a xs ∧ SqA k2 K H b ys) (YPair (fun i => xs[i]?) (fun i => ys[i]?)) := by
  refine ⟨fun i _ hi q => ?_, fun _ q => ⟨xs, ys, q.1, q.2, by omega, by omega, by omega⟩, fun i H v H' _ q y => ?_⟩
  · have h1 : i < xs.length := by omega
    have h2 : i < ys.length := by omega
    exact ⟨xs, ys, xs[i], ys[i], q.1, q.2, by simp [h1], by simp [h2]⟩
  · obtain ⟨T, x, u, h1, h2, h3, h4, h5⟩ := y
    exact ⟨T, x, u, h1, h2, h3, h4 xs q.1, h5 ys q.2⟩
end Dl

/-! The D-layer, part 6: what is walked, comprehensions. -/
namespace Dl
open PySem PySem.Spec
open PyProof.Rows L2
/-- while F is frozen, J goes through ds -/
structure JW (K : PySem.W.Frag) (F : Hp) (J : It) (ds : List D) : Prop where
  go : ∃ (G : Hp → Prop) (Y : Nat → Hp → V → Hp → Prop), Walk J ds.length G Y ∧ (∀ F' H', Same F F' → Same F' H' → G H') ∧
    ∀ i F' H' x H'', i < ds.length → Same F F' → Same F' H' → Y i H' x H'' → ∃ F'' d, ds[i]? = some d ∧ Go F' H' F'' H'' ∧ Rep K F'' d x
structure RI (X : Cx) (W : WX) (tg iter : Expr) (t : TDs) : Prop where
  run : ∃ wi, PI X tg iter wi ∧ ∀ (ρ : Env') (σ : L2.St) (F H : Hp) (Qd : List D → Prop) (E : EQ) (R : It → Hp → Prop), Rl X.K ρ σ F H → XP X.K W σ F H E →
    (∀ ds J F' H', Go F H F' H' → JW X.K F' J ds → ds.length ≤ sizeLine → Qd ds → R J H') → t ρ Qd E → wi σ H R
section
variable {X : Cx} {W : WX} {tg e a b c : Expr} {es : List Expr} {t ta tb tc : TD} {ts : TDs} {pos : Pos}
theorem jw_seq {K : PySem.W.Frag} {F : Hp} {J : It} {ds : List D} {vs : List V} {G : Hp → Prop} (w : Walk J vs.length G (YAt vs)) (hg : ∀ F' H', Same F F' → Same F' H' → G H') (r : Reps K F ds vs) : JW K F J ds := by
  refine ⟨G, YAt vs, by rw [← r.length]; exact w, hg, fun i F' H' x H'' hi e1 e2 y => ?_⟩
  obtain ⟨rfl, y⟩ := y
  obtain ⟨d, h1, h2⟩ := r.get' y
  exact ⟨F', d, h1, .refl e2, h2.mono e1⟩
/-- over a list or a tuple -/
def asSeq (Q : List D → Prop) : EQ
  | .lst ds => Q ds
  | .frl ds => Q ds
  | .tup ds => Q ds
  | _ => False
theorem asSeq_inv {Q : List D → Prop} {d : D} (h : asSeq Q d) : ∃ ds, (d = .lst ds ∨ d = .frl ds ∨ d = .tup ds) ∧ Q ds := by
  cases d <;> first | exact False.elim h | skip
  · exact ⟨_, .inr (.inr rfl), h⟩
  · exact ⟨_, .inl rfl, h⟩
  · exact ⟨_, .inr (.inl rfl), h⟩
def dSeq (t : TD) : TDs := fun ρ Q E => t ρ (asSeq Q) E
theorem pi_or {wi wi' : TI} (h : PI X tg e wi) (h' : PI X tg e wi') : PI X tg e (fun σ H R => wi σ H R ∨ wi' σ H R) :=
  ⟨fun pins s σ H R I q => q.elim (h.run pins s σ H R I) (h'.run pins s σ H R I)⟩
theorem ri_seq (h : RE X W e t) : RI X W tg e (dSeq t) := by
  obtain ⟨te, h1, h2⟩ := h.run
  let wi : TI := fun σ H R => te σ H fun x H1 => ∃ a, x = .ref a ∧ (((∃ xs, SqL X.K H1 a xs) ∧ R (Itl X.K a) H1) ∨ ((∃ xs, SqT X.K H1 a xs) ∧ R (Itt X.K a) H1))
  have hp : PI X tg e wi := by
    refine ⟨fun pins s σ H R I q => ?_⟩
    refine thn (h1.run pins s σ H _ I q) fun v s1 ⟨x, H1, I1, r1, a, ex, q1⟩ => ?_
    subst ex
    cases r1
    rcases q1 with ⟨⟨xs, hq⟩, q1⟩ | ⟨⟨xs, hq⟩, q1⟩
    · obtain ⟨its, rv, p, hz⟩ := I1.list hq
      refine wpAny_pyIter_list p.isList ?_
      refine ⟨s1.heap.objs.size, [s1.heap.objs.size], _, _, H1, rfl, I1.kept (t' := s1.toks) fun b o e => Heap.get?_push_of_some _ e, turn_list a _, ⟨_, Heap.get?_push_size _ rfl, rfl, rfl⟩, fun b hb => ?_, q1⟩
      rw [List.mem_singleton.mp hb]
      exact I1.fpOk (Nat.le_refl _) (I1.hok.fresh (Nat.le_refl _))
    · obtain ⟨its, rv, p, hz⟩ := I1.tuple hq
      refine wpAny_pyIter_tuple (show s1.heap.IsTuple a its.toArray from p) ?_
      refine ⟨s1.heap.objs.size, [s1.heap.objs.size], _, _, H1, rfl, I1.kept (t' := s1.toks) fun b o e => Heap.get?_push_of_some _ e, turn_tuple a _, ⟨_, Heap.get?_push_size _ rfl, rfl, rfl⟩, fun b hb => ?_, q1⟩
      rw [List.mem_singleton.mp hb]
      exact I1.fpOk (Nat.le_refl _) (I1.hok.fresh (Nat.le_refl _))
  refine ⟨wi, hp, fun ρ σ F H Qd E R rl xp kk q => h2 ρ σ F H _ E _ rl xp (fun d v F1 H1 g1 r1 q1 => ?_) q⟩
  obtain ⟨ds, hd, q2⟩ := asSeq_inv q1
  rcases hd with rfl | rfl | rfl
  · cases r1 with
    | lst s l r =>
      exact ⟨_, rfl, .inl ⟨⟨_, SqL.of (g1.fh _ _ s)⟩, kk ds _ F1 H1 g1 (jw_seq walk_list (fun F' H' e1 e2 => SqL.of (e2 _ _ (e1 _ _ s))) r) (by rw [← r.length]; exact l) q2⟩⟩
  · cases r1 with
    | frl s l r =>
      exact ⟨_, rfl, .inl ⟨⟨_, same_seqL g1.fh s⟩, kk ds _ F1 H1 g1 (jw_seq walk_list (fun F' H' e1 e2 => same_seqL e2 (same_seqL e1 s)) r) (by rw [← r.length]; exact l) q2⟩⟩
  · cases r1 with
    | tup s l r =>
      exact ⟨_, rfl, .inr ⟨⟨_, same_seqT g1.fh (SqT.of s)⟩, kk ds _ F1 H1 g1 (jw_seq walk_tup (fun F' H' e1 e2 => same_seqT e2 (same_seqT e1 (SqT.of s))) r) (by rw [← r.length]; exact l) q2⟩⟩
/-- lo, lo + 1, .. -/
def irg (lo : Int) : Nat → List D
  | 0 => []
  | n + 1 => .int lo :: irg (lo + 1) n
theorem irg_len (n : Nat) : ∀ lo : Int, (irg lo n).length = n := by
  induction n with
  | zero => intro lo; rfl
  | succ n ih => intro lo; show (irg (lo + 1) n).length + 1 = n + 1; rw [ih]
theorem irg_get (n : Nat) : ∀ (lo : Int) (i : Nat), i < n → (irg lo n)[i]? = some (.int (lo + i)) := by
  induction n with
  | zero => intro lo i h; omega
  | succ n ih =>
    intro lo i h
    cases i with
    | zero => show some (D.int lo) = _; rw [show lo + ((0 : Nat) : Int) = lo by omega]
    | succ i =>
      show (irg (lo + 1) n)[i]? = _
      rw [ih (lo + 1) i (by omega)]
      rw [show lo + 1 + (i : Int) = lo + ((i + 1 : Nat) : Int) by omega]
theorem jw_range {K : PySem.W.Frag} {F : Hp} (lo : Int) (n : Nat) : JW K F (Itr lo n) (irg lo n) := by
  refine ⟨fun _ => True, YFn fun i => .int (lo + i), by rw [irg_len]; exact walk_range, fun _ _ _ _ => trivial, fun i F' H' x H'' hi e1 e2 y => ?_⟩
  obtain ⟨rfl, rfl⟩ := y
  rw [irg_len] at hi
  exact ⟨F', _, irg_get n lo i hi, .refl e2, .int _⟩
def dRng1 (t : TD) : TDs := fun ρ Q E => t ρ (asI fun j => j ≤ 16777216 ∧ -16777216 ≤ j ∧ Q (irg 0 j.toNat)) E
theorem ri_range1 {p : Pos} (h : RP X W a t) (hm : X.mg "range" = none) (hg : Gl X "range" := by rfl) (hs : starEach [a] X.env = (false, eval a X.env) :: starEach [] X.env := by rfl) : RI X W tg (.Call (.Name "range" p) [a] [] pos) (dRng1 t) := by
  obtain ⟨te, h1, h2⟩ := h.run
  refine ⟨_, pi_range1 hg hm (pa_cons h1 pa_nil hs) hs, fun ρ σ F H Qd E R rl xp kk q => h2 ρ σ F H _ E _ rl xp (fun d v F1 H1 g1 r1 q1 => ?_) q⟩
  obtain ⟨j, rfl, z1, z2, q2⟩ := asI_inv q1
  cases r1.int
  exact ⟨j, rfl, by omega, by omega, kk _ _ F1 H1 g1 (jw_range 0 j.toNat) (by rw [irg_len, sizeLine_eq]; omega) q2⟩
def dRng2 (ta tb : TD) : TDs := fun ρ Q E => ta ρ (asI fun i => tb ρ (asI fun j => (j ≤ 16777216 ∧ -16777216 ≤ j ∧ i ≤ 16777216 ∧ -16777216 ≤ i ∧ j - i ≤ 16777216) ∧ Q (irg i (j - i).toNat)) E) E
theorem ri_range2 {p : Pos} (h : RP X W a ta) (h' : RP X W b tb) (hm : X.mg "range" = none) (hg : Gl X "range" := by rfl) (hs : starEach [a, b] X.env = [(false, eval a X.env), (false, eval b X.env)] := by rfl) (hs2 : starEach [b] X.env = [(false, eval b X.env)] := by rfl) :
    RI X W tg (.Call (.Name "range" p) [a, b] [] pos) (dRng2 ta tb) := by
  obtain ⟨te, h1, h2⟩ := h.run
  obtain ⟨te', h1', h2'⟩ := h'.run
  refine ⟨_, pi_range2 hg hm (pa_cons h1 (pa_cons h1' pa_nil hs2) (by rw [hs, hs2])) hs hs2, fun ρ σ F H Qd E R rl xp kk q => h2 ρ σ F H _ E _ rl xp (fun d v F1 H1 g1 r1 q1 => ?_) q⟩
  obtain ⟨i, rfl, q2⟩ := asI_inv q1
  cases r1.int
  refine h2' ρ σ F1 H1 _ E _ (rl.go g1) (xp.go g1) (fun d' v' F2 H2 g2 r2 q3 => ?_) q2
  obtain ⟨j, rfl, z, q4⟩ := asI_inv q3
  cases r2.int
  exact ⟨i, j, rfl, by omega, kk _ _ F2 H2 (g1.trans g2) (jw_range i (j - i).toNat) (by rw [irg_len, sizeLine_eq]; omega) q4⟩
/-- pairs -/
def pairs : List D → List D → List D
  | x :: xs, y :: ys => .tup [x, y] :: pairs xs ys
  | _, _ => []
theorem pairs_len : ∀ xs ys : List D, (pairs xs ys).length = min xs.length ys.length
  | [], _ => by simp [pairs]
  | _ :: _, [] => by simp [pairs]
  | x :: xs, y :: ys => by simp only [pairs, List.length_cons, pairs_len xs ys]; omega
theorem pairs_get : ∀ {xs ys : List D} {i : Nat} {x y : D}, xs[i]? = some x → ys[i]? = some y → (pairs xs ys)[i]? = some (.tup [x, y])
  | [], _, _, _, _, h, _ => by simp at h
  | _ :: _, [], _, _, _, _, h => by simp at h
  | _ :: _, _ :: _, 0, _, _, h, h' => by simp at h h'; subst h; subst h'; rfl
  | _ :: xs, _ :: ys, i + 1, _, _, h, h' => by
    simp only [pairs, List.getElem?_cons_succ]
    exact pairs_get (by simpa using h) (by simpa using h')
theorem jw_pair {K : PySem.W.Frag} {F : Hp} {J : It} {ds es : List D} {G : Hp → Prop} {xs ys : Nat → Option V} (w : Walk J (min ds.length es.length) G (YPair xs ys)) (hg : ∀ F' H', Same F F' → Same F' H' → G H')
    (r : ∀ i x, xs i = some x → i < ds.length → ∃ d, ds[i]? = some d ∧ Rep K F d x) (r' : ∀ i x, ys i = some x → i < es.length → ∃ d, es[i]? = some d ∧ Rep K F d x) : JW K F J (pairs ds es) := by
  refine ⟨G, YPair xs ys, by rw [pairs_len]; exact w, hg, fun i F' H' v H'' hi e1 e2 y => ?_⟩
  rw [pairs_len] at hi
  obtain ⟨T, x, u, rfl, nT, rfl, hx, hy⟩ := y
  obtain ⟨d, h1, h2⟩ := r i x hx (by omega)
  obtain ⟨d', h1', h2'⟩ := r' i u hy (by omega)
  obtain ⟨g, rr⟩ := Go.tup (K := K) (ds := [d, d']) e2 (.cons (h2.mono e1) (.cons (h2'.mono e1) .nil)) (by show 2 ≤ sizeLine; rw [sizeLine_eq]; decide) nT
  exact ⟨_, _, pairs_get h1 h1', g, rr⟩
def dZip (ta tb : TD) : TDs := fun ρ Q E => ta ρ (asSeq fun xs => tb ρ (asSeq fun ys => Q (pairs xs ys)) E) E
theorem rep_seq {K : PySem.W.Frag} {F H : Hp} {d : D} {v : V} {ds : List D} (r : Rep K F d v) (e : d = .lst ds ∨ d = .frl ds ∨ d = .tup ds) : ∃ (k : Bool) (a : Addr) (vs : List V), v = .ref a ∧ SqA k K F a vs ∧ vs.length ≤ sizeLine ∧ Reps K F ds vs := by
  rcases e with rfl | rfl | rfl
  · cases r with
    | lst s l r => exact ⟨true, _, _, rfl, SqL.of s, l, r⟩
  · cases r with
    | frl s l r => exact ⟨true, _, _, rfl, s, l, r⟩
  · cases r with
    | tup s l r => exact ⟨false, _, _, rfl, SqT.of s, l, r⟩
theorem same_seqA {k : Bool} {K : PySem.W.Frag} {H H' : Hp} {a : Addr} {xs : List V} (e : Same H H') (h : SqA k K H a xs) : SqA k K H' a xs := by
  cases k
  · exact same_seqT e h
  · exact same_seqL e h
theorem ri_zip {p tpos : Pos} {elts : List Expr} {kk : Nat} (h : RE X W a ta) (h' : RE X W b tb) (hm : X.mg "zip" = none) (hg : Gl X "zip" := by rfl) (hs : starEach [a, b] X.env = (false, eval a X.env) :: starEach [b] X.env := by rfl) (hs2 : starEach [b] X.env = (false, eval b X.env) :: starEach [] X.env := by rfl)
    (hpl : (backTo pos (starEach [b] X.env)).any (·.1) = false := by rfl) : RI X W (.Tuple elts kk tpos) (.Call (.Name "zip" p) [a, b] [] pos) (dZip ta tb) := by
  obtain ⟨te, h1, h2⟩ := h.run
  obtain ⟨te', h1', h2'⟩ := h'.run
  refine ⟨_, pi_zipM hg hm (pa_cons h1 (pa_cons h1' pa_nil hs2) hs) hs hpl, fun ρ σ F H Qd E R rl xp kk q => h2 ρ σ F H _ E _ rl xp (fun d v F1 H1 g1 r1 q1 => ?_) q⟩
  obtain ⟨ds, hd, q2⟩ := asSeq_inv q1
  refine h2' ρ σ F1 H1 _ E _ (rl.go g1) (xp.go g1) (fun d' v' F2 H2 g2 r2 q3 => ?_) q2
  obtain ⟨es, he, q4⟩ := asSeq_inv q3
  obtain ⟨k1, a1, vs, rfl, s1, l1, rs1⟩ := rep_seq (H := H2) (r1.mono g2.ff) hd
  obtain ⟨k2, a2, ws, rfl, s2, l2, rs2⟩ := rep_seq (H := H2) r2 he
  have w : Walk (ItzA k1 k2 X.K a1 a2) (min ds.length es.length) (fun H => SqA k1 X.K H a1 vs ∧ SqA k2 X.K H a2 ws) (YPair (fun i => vs[i]?) (fun i => ws[i]?)) := by
    rw [← rs1.length, ← rs2.length]; exact walk_zipM
  have jw : JW X.K F2 (ItzA k1 k2 X.K a1 a2) (pairs ds es) :=
    jw_pair w (fun F' H' e1 e2 => ⟨same_seqA e2 (same_seqA e1 s1), same_seqA e2 (same_seqA e1 s2)⟩) (fun i x hx _ => rs1.get' hx) fun i x hx _ => rs2.get' hx
  refine ⟨k1, k2, a1, a2, vs, ws, rfl, same_seqA g2.fh s1, same_seqA g2.fh s2, kk _ _ F2 H2 (g1.trans g2) jw ?_ q4⟩
  rw [pairs_len, ← rs1.length]
  exact Nat.le_trans (Nat.min_le_left _ _) l1
/-- numbered -/
def numbered (k : Nat) : List D → List D
  | [] => []
  | x :: xs => .tup [.int k, x] :: numbered (k + 1) xs
theorem numbered_eq : ∀ (xs : List D) (k : Nat), numbered k xs = pairs (irg k xs.length) xs
  | [], k => rfl
  | x :: xs, k => by
    show D.tup [.int k, x] :: numbered (k + 1) xs = D.tup [.int k, x] :: pairs (irg ((k : Int) + 1) xs.length) xs
    rw [numbered_eq xs (k + 1)]
    rfl
def onLs (Q : List D → Prop) : EQ
  | .lst ds => Q ds
  | .frl ds => Q ds
  | _ => False
theorem onLs_inv {Q : List D → Prop} {d : D} (h : onLs Q d) : ∃ ds, (d = .lst ds ∨ d = .frl ds) ∧ Q ds := by
  cases d <;> first | exact False.elim h | skip
  · exact ⟨_, .inl rfl, h⟩
  · exact ⟨_, .inr rfl, h⟩
def dEnum (t : TD) : TDs := fun ρ Q E => t ρ (onLs fun xs => Q (numbered 0 xs)) E
theorem ri_enum {p tpos : Pos} {elts : List Expr} {kk : Nat} (h : RE X W a t) (hm : X.mg "enumerate" = none) (hg : Gl X "enumerate" := by rfl) (hs : starEach [a] X.env = (false, eval a X.env) :: starEach [] X.env := by rfl) : RI X W (.Tuple elts kk tpos) (.Call (.Name "enumerate" p) [a] [] pos) (dEnum t) := by
  obtain ⟨te, h1, h2⟩ := h.run
  refine ⟨_, pi_enum hg hm (pa_cons h1 pa_nil hs) hs, fun ρ σ F H Qd E R rl xp kk q => h2 ρ σ F H _ E _ rl xp (fun d v F1 H1 g1 r1 q1 => ?_) q⟩
  obtain ⟨ds, hd, q2⟩ := onLs_inv q1
  obtain ⟨a1, vs, rfl, s1, l1, rs1⟩ : ∃ (a : Addr) (vs : List V), v = .ref a ∧ SqL X.K F1 a vs ∧ vs.length ≤ sizeLine ∧ Reps X.K F1 ds vs := by
    rcases hd with rfl | rfl
    · cases r1 with
      | lst s l r => exact ⟨_, _, rfl, SqL.of s, l, r⟩
    · cases r1 with
      | frl s l r => exact ⟨_, _, rfl, s, l, r⟩
  refine ⟨a1, vs, rfl, same_seqL g1.fh s1, kk _ _ F1 H1 g1 ?_ ?_ q2⟩
  · rw [numbered_eq]
    have w : Walk (Ite X.K a1) (min (irg ((0 : Nat) : Int) ds.length).length ds.length) (fun H => SqL X.K H a1 vs) (YPair (fun i => some (.int (i : Nat))) (fun i => vs[i]?)) := by
      rw [irg_len, Nat.min_self, ← rs1.length]; exact walk_enum
    refine jw_pair w (fun F' H' e1 e2 => same_seqL e2 (same_seqL e1 s1)) (fun i x hx hi => ?_) fun i x hx _ => rs1.get' hx
    cases hx
    rw [irg_len] at hi
    exact ⟨_, irg_get _ _ i hi, by rw [show ((0 : Nat) : Int) + (i : Int) = (i : Int) by omega]; exact .int _⟩
  · rw [numbered_eq, pairs_len, irg_len, Nat.min_self, ← rs1.length]
    exact l1
/-- over a text, sign by sign -/
def signs (z : Str) : List D := z.cps.toList.map fun c => .str ⟨#[c]⟩
def asS (Q : Str → Prop) : EQ
  | .str z => Q z
  | _ => False
theorem asS_inv {Q : Str → Prop} {d : D} (h : asS Q d) : ∃ z, d = .str z ∧ Q z := by
  cases d <;> first | exact ⟨_, rfl, h⟩ | exact False.elim h
def dSigns (t : TD) : TDs := fun ρ Q E => t ρ (asS fun z => z.length ≤ 16777216 ∧ Q (signs z)) E
theorem ri_str (h : RP X W e t) : RI X W tg e (dSigns t) := by
  obtain ⟨te, h1, h2⟩ := h.run
  refine ⟨_, pi_str h1, fun ρ σ F H Qd E R rl xp kk q => h2 ρ σ F H _ E _ rl xp (fun d v F1 H1 g1 r1 q1 => ?_) q⟩
  obtain ⟨z, rfl, zl, q2⟩ := asS_inv q1
  cases r1.str
  have sl : (signs z).length = z.cps.size := by unfold signs; rw [List.length_map, Array.length_toList]
  refine ⟨z, rfl, kk _ _ F1 H1 g1 ⟨_, _, by rw [sl]; exact walk_str, fun _ _ _ _ => trivial, fun i F' H' x H'' hi e1 e2 y => ?_⟩ (by rw [sl, sizeLine_eq]; exact zl) q2⟩
  obtain ⟨rfl, c, hc, rfl⟩ := y
  refine ⟨F', .str ⟨#[c]⟩, ?_, .refl e2, .str _⟩
  unfold signs
  rw [List.getElem?_map, Array.getElem?_toList, hc]
  rfl

/-! ### targets -/
abbrev DG := D → Env' → (Env' → Prop) → Prop
/-- a target that stores at the slots js alone -/
structure RG (X : Cx) (tg : Expr) (js : List Nat) (g : DG) : Prop where
  run : ∃ tg', PG X tg tg' ∧ ∀ (ρ : Env') (σ : L2.St) (F H : Hp) (d : D) (v : V) (Qd : Env' → Prop) (Q : L2.St → Hp → Prop), ρ.length = σ.length → Same F H → Rep X.K F d v →
    (∀ ρ' σ' (us : List (Nat × D × V)), ρ' = us.foldl (fun r u => r.set u.1 (.sh u.2.1)) ρ → σ' = us.foldl (fun s u => s.set u.1 (some u.2.2)) σ → (∀ u ∈ us, u.1 ∈ js ∧ Rep X.K F u.2.1 u.2.2) → Qd ρ' → Q σ' H) → g d ρ Qd → tg' v σ H Q
structure RGs (X : Cx) (tgs : List Expr) (js : List Nat) (g : List D → Env' → (Env' → Prop) → Prop) : Prop where
  run : ∃ tg', PGs X tgs tg' ∧ ∀ (ρ : Env') (σ : L2.St) (F H : Hp) (ds : List D) (vs : List V) (Qd : Env' → Prop) (Q : L2.St → Hp → Prop), ρ.length = σ.length → Same F H → Reps X.K F ds vs →
    (∀ ρ' σ' (us : List (Nat × D × V)), ρ' = us.foldl (fun r u => r.set u.1 (.sh u.2.1)) ρ → σ' = us.foldl (fun s u => s.set u.1 (some u.2.2)) σ → (∀ u ∈ us, u.1 ∈ js ∧ Rep X.K F u.2.1 u.2.2) → Qd ρ' → Q σ' H) → g ds ρ Qd → tg' vs σ H Q
def gNm (i : Nat) : DG := fun d ρ Q => Q (ρ.set i (.sh d))
theorem rg_name (i : Nat) {x : Str} (hN : X.N.Nodup) (hi : X.N[i]? = some x := by rfl) (hx : Loc X.env.scope x := by first | exact Or.inl rfl | exact Or.inr rfl) (hf : X.fn x = true ∨ X.env.scope.names.lookup x = some .local := by first | exact .inl rfl | exact .inr rfl) : RG X (.Name x pos) [i] (gNm i) := by
  refine ⟨_, pg_name hN hi hx hf, fun ρ σ F H d v Qd Q hl e r kk q => ?_⟩
  exact kk _ _ [(i, d, v)] rfl rfl (fun u hu => by rw [List.mem_singleton.mp hu]; exact ⟨List.mem_singleton.mpr rfl, r⟩) q
def gNl : List D → Env' → (Env' → Prop) → Prop := fun ds ρ Q => match ds with
  | [] => Q ρ
  | _ => False
def gCs (g : DG) (u : List D → Env' → (Env' → Prop) → Prop) : List D → Env' → (Env' → Prop) → Prop := fun ds ρ Q => match ds with
  | d :: ds => g d ρ fun ρ' => u ds ρ' Q
  | _ => False
theorem rgs_nil : RGs X [] [] gNl := by
  refine ⟨_, pgs_nil, fun ρ σ F H ds vs Qd Q hl e r kk q => ?_⟩
  cases ds with
  | cons d ds => exact False.elim q
  | nil => cases r; exact ⟨rfl, kk ρ σ [] rfl rfl (fun u hu => by cases hu) q⟩
theorem fold_len {α β : Type} (f : β → Nat × α) : ∀ (us : List β) (l : List α), (us.foldl (fun r u => r.set (f u).1 (f u).2) l).length = l.length
  | [], _ => rfl
  | u :: us, l => by rw [List.foldl_cons, fold_len f us, List.length_set]
theorem rgs_cons {js js' : List Nat} {g : DG} {u : List D → Env' → (Env' → Prop) → Prop} (h : RG X e js g) (hr : RGs X es js' u) (hs : (assignEach (e :: es) X.env).map (·.2) = assign e X.env :: (assignEach es X.env).map (·.2) := by rfl) : RGs X (e :: es) (js ++ js') (gCs g u) := by
  obtain ⟨g1, h1, h2⟩ := h.run
  obtain ⟨g2, a1, a2⟩ := hr.run
  refine ⟨_, pgs_cons h1 a1 hs, fun ρ σ F H ds vs Qd Q hl e r kk q => ?_⟩
  cases ds with
  | nil => exact False.elim q
  | cons d ds =>
    cases r with
    | cons r rr =>
      refine ⟨_, _, rfl, h2 ρ σ F H d _ _ _ hl e r (fun ρ' σ' us e1 e2 hu q1 => ?_) q⟩
      have hl' : ρ'.length = σ'.length := by
        rw [e1, e2, fold_len (fun u : Nat × D × V => (u.1, Sl.sh u.2.1)), fold_len (fun u : Nat × D × V => (u.1, some u.2.2))]; exact hl
      refine a2 ρ' σ' F H ds _ _ _ hl' e rr (fun ρ2 σ2 us2 e3 e4 hu2 q2 => ?_) q1
      refine kk ρ2 σ2 (us ++ us2) (by rw [List.foldl_append, ← e1]; exact e3) (by rw [List.foldl_append, ← e2]; exact e4) (fun u hu' => ?_) q2
      rcases List.mem_append.mp hu' with z | z
      · exact ⟨List.mem_append_left _ (hu u z).1, (hu u z).2⟩
      · exact ⟨List.mem_append_right _ (hu2 u z).1, (hu2 u z).2⟩
def gTp (n : Nat) (u : List D → Env' → (Env' → Prop) → Prop) : DG := fun d ρ Q => match d with
  | .tup ds => ds.length = n ∧ u ds ρ Q
  | _ => False
theorem rg_tup {k n : Nat} {js : List Nat} {u : List D → Env' → (Env' → Prop) → Prop} (h : RGs X es js u) (hc : X.calm = true := by rfl) (hn : (assignEach es X.env).length = n := by rfl) (hst : (assignEach es X.env).findIdx? (·.1) = none := by rfl) : RG X (.Tuple es k pos) js (gTp n u) := by
  obtain ⟨g1, h1, h2⟩ := h.run
  refine ⟨_, pg_tup hc h1 hn hst, fun ρ σ F H d v Qd Q hl e r kk q => ?_⟩
  cases d <;> first | exact False.elim q | skip
  cases r with
  | tup s l r => exact ⟨_, _, rfl, SqT.of (e _ _ s), by rw [r.length]; exact q.1, h2 ρ σ F H _ _ _ _ hl e r kk q.2⟩
end
end Dl

/-! The D-layer, part 7: comprehensions. -/
namespace Dl
open PySem PySem.Spec
open PyProof.Rows L2
def wipeD (ρ : Env') : List Nat → Env'
  | [] => ρ
  | v :: vs => (wipeD ρ vs).set v .no
theorem wipeD_len (ρ : Env') : ∀ vs : List Nat, (wipeD ρ vs).length = ρ.length
  | [] => rfl
  | v :: vs => by unfold wipeD; rw [List.length_set, wipeD_len ρ vs]
theorem wipeD_get {ρ : Env'} {i : Nat} {x : Sl} : ∀ {vs : List Nat}, (wipeD ρ vs)[i]? = some x → x ≠ .no → i ∉ vs ∧ ρ[i]? = some x
  | [], h, _ => ⟨by simp, h⟩
  | v :: vs, h, ne => by
    unfold wipeD at h
    by_cases hi : v = i
    · subst hi
      by_cases hl : v < (wipeD ρ vs).length
      · rw [List.getElem?_set_self hl] at h; cases h; exact absurd rfl ne
      · rw [List.getElem?_eq_none (by simpa using hl)] at h; cases h
    · rw [List.getElem?_set_ne hi] at h
      obtain ⟨h1, h2⟩ := wipeD_get h ne
      exact ⟨by simp only [List.mem_cons, not_or]; exact ⟨fun e => hi e.symm, h1⟩, h2⟩
theorem wipe_at {σ : L2.St} {i : Nat} : ∀ {vs : List Nat}, (L2.wipe σ vs)[i]? = if i ∈ vs ∧ i < σ.length then some none else σ[i]?
  | [] => by simp [L2.wipe]
  | v :: vs => by
    unfold L2.wipe
    by_cases hi : v = i
    · subst hi
      by_cases hl : v < σ.length
      · rw [List.getElem?_set_self (by rw [L2.wipe_length]; exact hl), if_pos ⟨by simp, hl⟩]
      · rw [if_neg (fun h => hl h.2), List.getElem?_eq_none (by rw [List.length_set, L2.wipe_length]; omega), List.getElem?_eq_none (by omega)]
    · rw [List.getElem?_set_ne hi, wipe_at (vs := vs)]
      have : (i ∈ v :: vs) = (i ∈ vs) := by
        rw [List.mem_cons]
        exact propext ⟨fun h => h.resolve_left (fun e => hi e.symm), .inr⟩
      simp only [this]
theorem wipe_set {σ : L2.St} {vs : List Nat} {i : Nat} {x : Option V} (h : i ∈ vs) : L2.wipe (σ.set i x) vs = L2.wipe σ vs := by
  refine List.ext_getElem? fun j => ?_
  rw [wipe_at, wipe_at, List.length_set]
  by_cases hj : i = j
  · subst hj
    by_cases hl : i < σ.length
    · rw [if_pos ⟨h, hl⟩, if_pos ⟨h, hl⟩]
    · rw [if_neg (fun z => hl z.2), if_neg (fun z => hl z.2), List.getElem?_eq_none (by rw [List.length_set]; omega), List.getElem?_eq_none (by omega)]
  · rw [List.getElem?_set_ne hj]
theorem wipe_wipe {σ : L2.St} {vs : List Nat} : L2.wipe (L2.wipe σ vs) vs = L2.wipe σ vs := by
  refine List.ext_getElem? fun j => ?_
  rw [wipe_at, wipe_at, L2.wipe_length]
  by_cases h : j ∈ vs ∧ j < σ.length
  · rw [if_pos h, if_pos h]
  · rw [if_neg h, if_neg h]
theorem wipe_fold {vs : List Nat} : ∀ (us : List (Nat × D × V)) (σ : L2.St), (∀ u ∈ us, u.1 ∈ vs) → L2.wipe (us.foldl (fun s u => s.set u.1 (some u.2.2)) σ) vs = L2.wipe σ vs
  | [], _, _ => rfl
  | u :: us, σ, h => by
    rw [List.foldl_cons, wipe_fold us _ fun u hu => h u (List.mem_cons_of_mem _ hu), wipe_set (h u List.mem_cons_self)]
theorem Rl.wipe {K : PySem.W.Frag} {ρ : Env'} {σ : L2.St} {F H : Hp} (r : Rl K ρ σ F H) (vs : List Nat) : Rl K (wipeD ρ vs) (L2.wipe σ vs) F H := by
  have key : ∀ {i : Nat} {x : Sl}, (wipeD ρ vs)[i]? = some x → x ≠ .no → ρ[i]? = some x ∧ (L2.wipe σ vs)[i]? = σ[i]? := fun {i x} h ne => by
    obtain ⟨h1, h2⟩ := wipeD_get h ne
    exact ⟨h2, by rw [wipe_at, if_neg fun z => h1 z.1]⟩
  refine ⟨by rw [wipeD_len, L2.wipe_length]; exact r.len, r.fh, fun i d e => ?_, fun i ds e => ?_, fun i C fs e => ?_, fun i kvs e => ?_, fun i j s t v e1 o1 e2 o2 e3 e4 => ?_⟩
  · obtain ⟨h1, h2⟩ := key e (fun z => nomatch z)
    rw [h2]; exact r.sh i d h1
  · obtain ⟨h1, h2⟩ := key e (fun z => nomatch z)
    rw [h2]; exact r.ow i ds h1
  · obtain ⟨h1, h2⟩ := key e (fun z => nomatch z)
    rw [h2]; exact r.oi i C fs h1
  · obtain ⟨h1, h2⟩ := key e (fun z => nomatch z)
    rw [h2]; exact r.od i kvs h1
  · obtain ⟨h1, h2⟩ := key e1 (fun z => by subst z; cases o1)
    obtain ⟨h1', h2'⟩ := key e2 (fun z => by subst z; cases o2)
    rw [h2] at e3; rw [h2'] at e4
    exact r.inj i j s t v h1 o1 h1' o2 e3 e4
theorem Rl.set {K : PySem.W.Frag} {ρ : Env'} {σ : L2.St} {F H : Hp} (r : Rl K ρ σ F H) (i : Nat) {d : D} {v : V} (rd : Rep K F d v) : Rl K (ρ.set i (.sh d)) (σ.set i (some v)) F H := by
  have key : ∀ {j : Nat} {x : Sl}, (ρ.set i (.sh d))[j]? = some x → x.own = true → ρ[j]? = some x ∧ (σ.set i (some v))[j]? = σ[j]? := fun {j x} h o => by
    by_cases hj : i = j
    · subst hj
      by_cases hl : i < ρ.length
      · rw [List.getElem?_set_self hl] at h; cases h; cases o
      · rw [List.getElem?_eq_none (by rw [List.length_set]; omega)] at h; cases h
    · rw [List.getElem?_set_ne hj] at h ⊢
      exact ⟨h, rfl⟩
  refine ⟨by rw [List.length_set, List.length_set]; exact r.len, r.fh, fun j d' e => ?_, fun j ds e => ?_, fun j C fs e => ?_, fun j kvs e => ?_, fun j k s t w e1 o1 e2 o2 e3 e4 => ?_⟩
  · by_cases hj : i = j
    · subst hj
      have hl : i < ρ.length := by
        have z := (List.getElem?_eq_some_iff.mp e).1
        rw [List.length_set] at z; exact z
      rw [List.getElem?_set_self hl] at e
      cases e
      exact ⟨v, List.getElem?_set_self (by rw [← r.len]; exact hl), rd⟩
    · rw [List.getElem?_set_ne hj] at e ⊢
      exact r.sh j d' e
  · obtain ⟨h1, h2⟩ := key e rfl
    rw [h2]; exact r.ow j ds h1
  · obtain ⟨h1, h2⟩ := key e rfl
    rw [h2]; exact r.oi j C fs h1
  · obtain ⟨h1, h2⟩ := key e rfl
    rw [h2]; exact r.od j kvs h1
  · obtain ⟨h1, h2⟩ := key e1 o1
    obtain ⟨h1', h2'⟩ := key e2 o2
    rw [h2] at e3; rw [h2'] at e4
    exact r.inj j k s t w h1 o1 h1' o2 e3 e4
theorem Rl.sets {K : PySem.W.Frag} {F H : Hp} : ∀ (us : List (Nat × D × V)) {ρ : Env'} {σ : L2.St}, Rl K ρ σ F H → (∀ u ∈ us, Rep K F u.2.1 u.2.2) → Rl K (us.foldl (fun r u => r.set u.1 (.sh u.2.1)) ρ) (us.foldl (fun s u => s.set u.1 (some u.2.2)) σ) F H
  | [], _, _, r, _ => r
  | u :: us, _, _, r, h => Rl.sets us (r.set u.1 (h u List.mem_cons_self)) fun v hv => h v (List.mem_cons_of_mem _ hv)
/-! ### [elt for tg in iter if ..] -/
abbrev W0 : WX := fun _ _ _ _ => False
theorem xp0 {K : PySem.W.Frag} {σ : L2.St} {F H : Hp} : XP K W0 σ F H fun _ => False := fun _ _ _ _ _ _ _ h => h
def compR (g : DG) (tt : TDb) (te : TD) (ρ : Env') (Q : List D → Prop) : List D → List D → Prop
  | [], acc => Q acc
  | d :: ds, acc => g d ρ fun ρ2 => tt ρ2 (fun b => ifP b (te ρ2 (fun y => compR g tt te ρ Q ds (acc ++ [y])) (fun _ => False)) (compR g tt te ρ Q ds acc)) fun _ => False
/-- the same, shut -/
structure compL (g : DG) (tt : TDb) (te : TD) (ρ : Env') (Q : List D → Prop) (ds acc : List D) : Prop where
  out : compR g tt te ρ Q ds acc
def dYes : TDb := fun _ Q _ => Q true
structure RTs (X : Cx) (W : WX) (ifs : List Expr) (t : TDb) : Prop where
  run : ∃ tt, PTs X ifs tt ∧ ∀ (ρ : Env') (σ : L2.St) (F H : Hp) (Qd : Bool → Prop) (E : EQ) (Q : Bool → Hp → Prop), Rl X.K ρ σ F H → XP X.K W σ F H E →
    (∀ b F' H', Go F H F' H' → Qd b → Q b H') → t ρ Qd E → tt σ H Q
theorem rts_nil {X : Cx} {W : WX} : RTs X W [] dYes := ⟨_, pts_nil, fun ρ σ F H Qd E Q rl xp kk q => kk _ F H (.refl rl.fh) q⟩
theorem rts_one {X : Cx} {W : WX} {c : Expr} {t : TDb} (h : RT X W c t) : RTs X W [c] t := by
  obtain ⟨te, h1, h2⟩ := h.run
  exact ⟨_, pts_one h1, h2⟩
/-- a reading of values that is worth a reading of trees -/
def liftE (K : PySem.W.Frag) (W : WX) (t : TD) : TE := fun σ H Q => ∃ (ρ : Env') (F : Hp) (Qd E : EQ), Rl K ρ σ F H ∧ XP K W σ F H E ∧ (∀ d v F' H', Go F H F' H' → Rep K F' d v → Qd d → Q v H') ∧ t ρ Qd E
theorem RE.lift {X : Cx} {W : WX} {e : Expr} {t : TD} (h : RE X W e t) : PE X e (liftE X.K W t) := by
  obtain ⟨te, h1, h2⟩ := h.run
  refine ⟨fun pins s σ H Q I ⟨ρ, F, Qd, E, rl, xp, kk, q⟩ => h1.run pins s σ H Q I (h2 ρ σ F H Qd E Q rl xp kk q)⟩
def liftT (K : PySem.W.Frag) (W : WX) (t : TDb) : TT := fun σ H Q => ∃ (ρ : Env') (F : Hp) (Qd : Bool → Prop) (E : EQ), Rl K ρ σ F H ∧ XP K W σ F H E ∧ (∀ d F' H', Go F H F' H' → Qd d → Q d H') ∧ t ρ Qd E
theorem RTs.lift {X : Cx} {W : WX} {e : List Expr} {t : TDb} (h : RTs X W e t) : PTs X e (liftT X.K W t) := by
  obtain ⟨te, h1, h2⟩ := h.run
  refine ⟨fun pins s σ H Q I ⟨ρ, F, Qd, E, rl, xp, kk, q⟩ => h1.run pins s σ H Q I (h2 ρ σ F H Qd E Q rl xp kk q)⟩
def liftG (K : PySem.W.Frag) (js : List Nat) (g : DG) : TG := fun v σ H Q => ∃ (ρ : Env') (F : Hp) (d : D) (Qd : Env' → Prop), ρ.length = σ.length ∧ Same F H ∧ Rep K F d v ∧
    (∀ ρ' σ' (us : List (Nat × D × V)), ρ' = us.foldl (fun r u => r.set u.1 (.sh u.2.1)) ρ → σ' = us.foldl (fun s u => s.set u.1 (some u.2.2)) σ → (∀ u ∈ us, u.1 ∈ js ∧ Rep K F u.2.1 u.2.2) → Qd ρ' → Q σ' H) ∧ g d ρ Qd
theorem RG.lift {X : Cx} {e : Expr} {js : List Nat} {g : DG} (h : RG X e js g) : PG X e (liftG X.K js g) := by
  obtain ⟨te, h1, h2⟩ := h.run
  refine ⟨fun pins s σ H v u Q I r ⟨ρ, F, d, Qd, hl, e, rd, kk, q⟩ => h1.run pins s σ H v u Q I r (h2 ρ σ F H d v Qd Q hl e rd kk q)⟩
def dLc (ti : TDs) (g : DG) (tt : TDb) (te : TD) (vs : List Nat) : TD := fun ρ Q E => ti ρ (fun ds => compL g tt te (wipeD ρ vs) (fun r => Q (.lst r)) ds []) E
/-- a list that is new and nobody else's -/
structure RN (X : Cx) (W : WX) (e : Expr) (t : TDs) : Prop where
  run : ∃ te, PE X e te ∧ ∀ (ρ : Env') (σ : L2.St) (F H : Hp) (Qd : List D → Prop) (E : EQ) (Q : VK), Rl X.K ρ σ F H → XP X.K W σ F H E →
    (∀ ds p vs F' H', Go F H F' H' → H p = none → H' p = some (.lst vs) → F' p = none → vs.length ≤ sizeLine → Reps X.K F' ds vs → Qd ds → Q (.ref p) H') → t ρ Qd E → te σ H Q
def dFz (t : TDs) : TD := fun ρ Q E => t ρ (fun ds => Q (.lst ds)) E
theorem Go.freeze {F H F' H' : Hp} {p : Addr} {vs : List V} (g : Go F H F' H') (np : H p = none) (hp : H' p = some (.lst vs)) (fp : F' p = none) : Go F H (upd F' p (.lst vs)) H' := by
  refine ⟨g.ff.trans (same_upd fp), g.hh, fun b u e => ?_, fun q h1 h2 => ?_⟩
  · by_cases z : b = p
    · subst z; rw [upd_same] at e; cases e; exact hp
    · rw [upd_ne z] at e; exact g.fh _ _ e
  · rw [upd_ne (fun z => by rw [z] at h2; exact h2 np)]; exact g.nn q h1 h2
theorem RN.e {X : Cx} {W : WX} {e : Expr} {t : TDs} (h : RN X W e t) : RE X W e (dFz t) := by
  obtain ⟨te, h1, h2⟩ := h.run
  refine ⟨te, h1, fun ρ σ F H Qd E Q rl xp kk q => h2 ρ σ F H _ E _ rl xp (fun ds p vs F' H' g np hp fp z r q1 => ?_) q⟩
  exact kk _ _ _ H' (g.freeze np hp fp) (.lst upd_same z (r.mono (same_upd fp))) q1
section
variable {X : Cx} {W : WX}
theorem go_acc {F1 H1 F H : Hp} {p : Addr} {vs ws : List V} (g : Go F1 H1 F H) (n1 : H1 p = none) (hp : H p = some (.lst vs)) (fp : F p = none) : Go F1 H1 F (upd H p (.lst ws)) := by
  refine ⟨g.ff, fun b u e => ?_, fun b u e => ?_, g.nn⟩
  · rw [upd_ne (ne_of_none e n1)]; exact g.hh _ _ e
  · rw [upd_ne (ne_of_none e fp)]; exact g.fh _ _ e
def dLcN (ti : TDs) (g : DG) (tt : TDb) (te : TD) (vs : List Nat) : TDs := fun ρ Q E => ti ρ (fun ds => compL g tt te (wipeD ρ vs) Q ds []) E
theorem lc_run {K : PySem.W.Frag} {wi : TI} {ti : TDs} {g : DG} {js : List Nat} {tt : TDb} {te : TD} {vs : List Nat} (hjs : ∀ i ∈ js, i ∈ vs)
    (hi : ∀ (ρ : Env') (σ : L2.St) (F H : Hp) (Qd : List D → Prop) (E : EQ) (R : It → Hp → Prop), Rl K ρ σ F H → XP K W σ F H E → (∀ ds J F' H', Go F H F' H' → JW K F' J ds → ds.length ≤ sizeLine → Qd ds → R J H') → ti ρ Qd E → wi σ H R)
    {ρ : Env'} {σ : L2.St} {F H : Hp} {Qd : List D → Prop} {E : EQ} {Q : VK} (rl : Rl K ρ σ F H) (xp : XP K W σ F H E)
    (kk : ∀ ds p vs F' H', Go F H F' H' → H p = none → H' p = some (.lst vs) → F' p = none → vs.length ≤ sizeLine → Reps K F' ds vs → Qd ds → Q (.ref p) H') (q : dLcN ti g tt te vs ρ Qd E) :
    tLc wi (liftG K js g) (liftT K W0 tt) (liftE K W0 te) vs σ H Q := by
  refine hi ρ σ F H _ E _ rl xp (fun ds J F1 H1 g1 jw zl q1 => ?_) q
  intro P nP
  obtain ⟨G, Y, w, hG, hY⟩ := jw.go
  have fP : F1 P = none := g1.fh.free nP
  let Inv : Nat → Hp → Prop := fun i H' => ∃ (F' : Hp) (acc : List D) (av : List V), Go F1 H1 F' H' ∧ H' P = some (.lst av) ∧ F' P = none ∧ Reps K F' acc av ∧ av.length ≤ i ∧ compR g tt te (wipeD ρ vs) Qd (ds.drop i) acc
  refine lc_it w Inv ⟨F1, [], [], ⟨Same.refl _, same_upd nP, g1.fh.trans (same_upd nP), fun p h _ => h⟩, upd_same, fP, .nil, Nat.zero_le _, by rw [List.drop_zero]; exact q1.out⟩ ?_ ?_ ?_
  · rintro i H' _ ⟨F', acc, av, g2, _⟩
    exact hG F' H' g2.ff g2.fh
  · rintro i x H' H'' hlt ⟨F', acc, av, g2, hP, fP', ra, la, cq⟩ y
    obtain ⟨F2, d, hd, g3, rd⟩ := hY i F' H' x H'' hlt g2.ff g2.fh y
    rw [List.drop_eq_getElem_cons hlt] at cq
    have hd' : ds[i] = d := by
      rw [List.getElem?_eq_getElem hlt] at hd
      exact Option.some.inj hd
    rw [hd'] at cq
    have rw0 : Rl K (wipeD ρ vs) (L2.wipe σ vs) F2 H'' := (((rl.wipe vs).go g1).go g2).go g3
    have hP2 : H'' P = some (.lst av) := g3.hh _ _ hP
    have fP2 : F2 P = none := g3.nn P fP' (by rw [hP]; exact fun z => nomatch z)
    have g4 := g2.trans g3
    refine ⟨wipeD ρ vs, F2, d, _, rw0.len, g3.fh, rd, fun ρ' σ' us e1 e2 hu q2 => ?_, cq⟩
    have rl2 : Rl K ρ' σ' F2 H'' := by rw [e1, e2]; exact rw0.sets us fun u hu' => (hu u hu').2
    refine ⟨by rw [e2, wipe_fold us _ fun u hu' => hjs _ (hu u hu').1, wipe_wipe], ρ', F2, _, _, rl2, xp0, fun b F3 H3 g5 q3 => ?_, q2⟩
    have g6 := g4.trans g5
    have hP3 : H3 P = some (.lst av) := g5.hh _ _ hP2
    have fP3 : F3 P = none := g5.nn P fP2 (by rw [hP2]; exact fun z => nomatch z)
    cases b with
    | false =>
      rw [ifP_f] at q3
      refine iteF ?_
      exact ⟨F3, acc, av, g6, hP3, fP3, (ra.mono g3.ff).mono g5.ff, Nat.le_succ_of_le la, q3⟩
    | true =>
      rw [ifP_t] at q3
      refine iteT ?_
      refine ⟨ρ', F3, _, _, rl2.go g5, xp0, fun yd yv F4 H4 g7 ry q4 => ?_, q3⟩
      have hP4 : H4 P = some (.lst av) := g7.hh _ _ hP3
      have fP4 : F4 P = none := g7.nn P fP3 (by rw [hP3]; exact fun z => nomatch z)
      refine ⟨av, hP4, by omega, F4, acc ++ [yd], av ++ [yv], go_acc (g6.trans g7) nP hP4 fP4, upd_same, fP4, (((ra.mono g3.ff).mono g5.ff).mono g7.ff).append (.cons ry .nil), by rw [List.length_append, List.length_singleton]; omega, q4⟩
  · rintro H' ⟨F', acc, av, g2, hP, fP', ra, la, cq⟩
    rw [List.drop_length] at cq
    exact kk acc P av F' H' (g1.trans g2) (g1.hh.free nP) hP fP' (by omega) ra cq
theorem rn_lc {elt tg iter : Expr} {ifs : List Expr} {scope : Scope} {own : List (Str × Nat)} {pos : Pos} {ti : TDs} {g : DG} {js : List Nat} {tt : TDb} {te : TD} (hN : X.N.Nodup) (hi : RI X W tg iter ti) (ok : BlkOk X.N X.env.scope scope own)
    (hg : ∀ (s : Shared) (H : Hp) (C : Addr) (cl : List (Str × Addr)) (fp : List Addr), RG (X.blk s H scope (compEnvC scope cl C X.env) fp) tg js g)
    (ht : ∀ (s : Shared) (H : Hp) (C : Addr) (cl : List (Str × Addr)) (fp : List Addr), RTs (X.blk s H scope (compEnvC scope cl C X.env) fp) W0 ifs tt)
    (he : ∀ (s : Shared) (H : Hp) (C : Addr) (cl : List (Str × Addr)) (fp : List Addr), RE (X.blk s H scope (compEnvC scope cl C X.env) fp) W0 elt te)
    {vs : List Nat} (hv : own.map (·.2) = vs := by rfl) (hjs : ∀ i ∈ js, i ∈ vs := by decide) (hc : X.calm = true := by rfl) (hs : ∀ x, foldedSetIterable iter X.env x = pure x := by intro _; rfl) :
    RN X W (.ListComp elt [⟨tg, iter, ifs, 0⟩] scope pos) (dLcN ti g tt te vs) := by
  subst hv
  obtain ⟨wi, h1, h2⟩ := hi.run
  exact ⟨_, pe_lc hc hN h1 ok (fun s H C cl fp => (hg s H C cl fp).lift) (fun s H C cl fp => (ht s H C cl fp).lift) (fun s H C cl fp => (he s H C cl fp).lift) hs, fun ρ σ F H Qd E Q rl xp kk q => lc_run hjs h2 rl xp kk q⟩
/-! ### other new lists -/
theorem rn_lst {es : List Expr} {ts : TDs} {pos : Pos} (h : RA X W es ts) : RN X W (.List es pos) (fun ρ Q E => ts ρ (fun ds => few ds ∧ Q ds) E) := by
  obtain ⟨te, h1, h2⟩ := h.run
  refine ⟨_, pe_lst h1, fun ρ σ F H Qd E Q rl xp kk q => h2 ρ σ F H _ E _ rl xp (fun ds vs F1 H1 g1 r1 q1 => ⟨few_line r1 q1.1, fun p np => ?_⟩) q⟩
  have g := g1.trans (F2 := F1) (H2 := upd H1 p (.lst vs)) ⟨Same.refl _, same_upd np, g1.fh.trans (same_upd np), fun _ h _ => h⟩
  exact kk ds p vs F1 _ g (g1.hh.free np) upd_same (g1.fh.free np) (few_line r1 q1.1) r1 q1.2
/-- [..] * n -/
def kRep : D → D → (List D → Prop) → Prop := fun x y Q => match x, y with
  | .lst a, .int k => k ≤ 1000000 ∧ -1000000 ≤ k ∧ few (List.replicate k.toNat a).flatten ∧ Q (List.replicate k.toNat a).flatten
  | _, _ => False
theorem go_new {F H : Hp} {p : Addr} {o : HO} (e : Same F H) (np : H p = none) : Go F H F (upd H p o) := ⟨Same.refl _, same_upd np, e.trans (same_upd np), fun _ h _ => h⟩
theorem rn_rep {a b : Expr} {ta tb : TD} {pos : Pos} (ha : RP X W a ta) (hb : RP X W b tb) : RN X W (.BinOp a .Mult b pos) (fun ρ Q E => ta ρ (fun x => tb ρ (fun y => kRep x y Q) E) E) := by
  obtain ⟨te1, a1, a2⟩ := ha.run
  obtain ⟨te2, b1, b2⟩ := hb.run
  refine ⟨_, pe_op op_rep a1 b1, fun ρ σ F H Qd E Q rl xp kk q => a2 ρ σ F H _ E _ rl xp (fun x vx F1 H1 g1 px q1 => b2 ρ σ F1 H1 _ E _ (rl.go g1) (xp.go g1) (fun y vy F2 H2 g2 py q2 => ?_) q1) q⟩
  cases x <;> first | exact False.elim q2 | skip
  cases y <;> first | exact False.elim q2 | skip
  obtain ⟨p, vs, rfl, h1, l1, r1⟩ := (px.go g2).lst g2.fh
  cases py.int
  rename_i ds k
  have rr := r1.rep k.toNat
  have zz := few_line rr q2.2.2.1
  have z1 := q2.1
  have z2 := q2.2.1
  refine ⟨p, k, vs, rfl, rfl, h1, by omega, by omega, by rw [← flat_len]; exact zz, fun l nl => ?_⟩
  exact kk _ l _ F2 _ ((g1.trans g2).trans (go_new g2.fh nl)) (g1.hh.free (g2.hh.free nl)) upd_same (g2.fh.free nl) zz rr q2.2.2.2
/-- list(x) -/
def kListN : D → (List D → Prop) → Prop := fun d Q => match d with
  | .lst ds => Q ds
  | .frl ds => Q ds
  | .tup ds => Q ds
  | _ => False
theorem rn_list {x : Str} {p pos : Pos} {e : Expr} {t : TD} (hm : X.mg x = none) (h : RP X W e t) (hg : Gl X x := by rfl) (hv : bootBuiltins x = some (.type "list") := by decide +kernel)
    (hn : x ≠ "__name__" := by decide) (hdb : (x == ("__debug__" : Str)) = false := by decide)
    (he : starEach [e] X.env = (false, eval e X.env) :: starEach [] X.env := by rfl) (hpl : (backTo pos (starEach [] X.env)).any (·.1) = false := by rfl) : RN X W (.Call (.Name x p) [e] [] pos) (fun ρ Q E => t ρ (fun d => kListN d Q) E) := by
  obtain ⟨te, h1, h2⟩ := h.run
  refine ⟨_, pe_callTy call_list_of hg hm hv (pa_cons h1 pa_nil he) hn hdb he hpl, fun ρ σ F H Qd E Q rl xp kk q => h2 ρ σ F H _ E _ rl xp (fun d v F1 H1 g1 pk q1 => ?_) q⟩
  cases d <;> first | exact False.elim q1 | skip
  · obtain ⟨p, ws, rfl, h1, l1, r1⟩ := pk.tup g1.fh
    exact ⟨p, ws, rfl, .inr h1, fun l nl => kk _ l _ F1 _ (g1.trans (go_new g1.fh nl)) (g1.hh.free nl) upd_same (g1.fh.free nl) l1 r1 q1⟩
  · obtain ⟨p, ws, rfl, h1, l1, r1⟩ := pk.lst g1.fh
    exact ⟨p, ws, rfl, .inl (SqL.of h1), fun l nl => kk _ l _ F1 _ (g1.trans (go_new g1.fh nl)) (g1.hh.free nl) upd_same (g1.fh.free nl) l1 r1 q1⟩
  · obtain ⟨p, ws, rfl, h1, l1, r1⟩ := pk.frl g1.fh
    exact ⟨p, ws, rfl, .inl h1, fun l nl => kk _ l _ F1 _ (g1.trans (go_new g1.fh nl)) (g1.hh.free nl) upd_same (g1.fh.free nl) l1 r1 q1⟩
end
end Dl

/-! The D-layer, part 8: statements, defs. -/
namespace Dl
open PySem PySem.Spec
open PyProof.Rows L2
/-- what is wanted behind a statement, by trees -/
structure DE where
  nx : Env' → Prop
  rt : EQ
  bk : Env' → Prop
  ct : Env' → Prop
  ex : Env' → EQ
  rt1 : List D → Prop
  rt2 : List D → List D → Prop
/-- a new list, known to nobody else -/
def OwL (K : PySem.W.Frag) (F H H0 : Hp) (ds : List D) (p : Addr) : Prop := H0 p = none ∧ F p = none ∧ ∃ vs, H p = some (.lst vs) ∧ vs.length ≤ sizeLine ∧ Reps K F ds vs
abbrev DS := DE → Env' → Prop
structure Cnt (K : PySem.W.Frag) (W : WX) (F0 H0 : Hp) (d : DE) (D : Ends) : Prop where
  nx : ∀ ρ σ F H, Ent K F0 H0 ρ σ F H → d.nx ρ → D.nx σ H
  rt : ∀ x v F H, Go F0 H0 F H → Rep K F x v → d.rt x → D.rt v H
  bk : ∀ ρ σ F H, Ent K F0 H0 ρ σ F H → d.bk ρ → D.bk σ H
  ct : ∀ ρ σ F H, Ent K F0 H0 ρ σ F H → d.ct ρ → D.ct σ H
  ex : ∀ ρ σ F H, Ent K F0 H0 ρ σ F H → XP K W σ F H (d.ex ρ)
  rt1 : ∀ ds p F H, Go F0 H0 F H → OwL K F H H0 ds p → d.rt1 ds → D.rt (.ref p) H
  rt2 : ∀ ds es t p q F H, Go F0 H0 F H → H t = some (.tup [.ref p, .ref q]) → p ≠ q → OwL K F H H0 ds p → OwL K F H H0 es q → d.rt2 ds es → D.rt (.ref t) H
/-- a later ground -/
theorem Ent.base {K : PySem.W.Frag} {F0 H0 F1 H1 : Hp} {ρ : Env'} {σ : L2.St} {F H : Hp} (g : Go F0 H0 F1 H1) (e : Ent K F1 H0 ρ σ F H) : Ent K F0 H0 ρ σ F H :=
  ⟨e.rl, ⟨g.ff.trans e.go.ff, e.go.hh, e.go.fh, fun p h1 h2 => e.go.nn p (g.nn p h1 h2) h2⟩, e.new⟩
theorem Ent.here {K : PySem.W.Frag} {F0 H0 : Hp} {ρ : Env'} {σ : L2.St} {F H : Hp} (e : Ent K F0 H0 ρ σ F H) : Ent K F H0 ρ σ F H :=
  ⟨e.rl, ⟨Same.refl _, e.go.hh, e.go.fh, fun _ h _ => h⟩, e.new⟩
theorem Cnt.base {K : PySem.W.Frag} {W : WX} {F0 H0 F1 H1 : Hp} {d : DE} {D : Ends} (g : Go F0 H0 F1 H1) (c : Cnt K W F0 H0 d D) : Cnt K W F1 H0 d D :=
  ⟨fun ρ σ F H e q => c.nx ρ σ F H (e.base g) q, fun x v F H g' r q => c.rt x v F H ⟨g.ff.trans g'.ff, g'.hh, g'.fh, fun p h1 h2 => g'.nn p (g.nn p h1 h2) h2⟩ r q, fun ρ σ F H e q => c.bk ρ σ F H (e.base g) q, fun ρ σ F H e q => c.ct ρ σ F H (e.base g) q, fun ρ σ F H e => c.ex ρ σ F H (e.base g), fun ds p F H g' => c.rt1 ds p F H ⟨g.ff.trans g'.ff, g'.hh, g'.fh, fun p h1 h2 => g'.nn p (g.nn p h1 h2) h2⟩, fun ds es t p q F H g' => c.rt2 ds es t p q F H ⟨g.ff.trans g'.ff, g'.hh, g'.fh, fun p h1 h2 => g'.nn p (g.nn p h1 h2) h2⟩⟩
structure RS (X : Cx) (W : WX) (st : Stmt) (t : DS) : Prop where
  run : ∃ ts, PS X st ts ∧ ∀ (F0 H0 : Hp) (ρ : Env') (σ : L2.St) (F H : Hp) (D : Ends) (d : DE), Ent X.K F0 H0 ρ σ F H → Cnt X.K W F0 H0 d D → t d ρ → ts D σ H
structure RSs (X : Cx) (W : WX) (st : List Stmt) (t : DS) : Prop where
  run : ∃ ts, PSs X st ts ∧ ∀ (F0 H0 : Hp) (ρ : Env') (σ : L2.St) (F H : Hp) (D : Ends) (d : DE), Ent X.K F0 H0 ρ σ F H → Cnt X.K W F0 H0 d D → t d ρ → ts D σ H
section
variable {X : Cx} {W : WX} {st : Stmt} {rest : List Stmt} {e a b c : Expr} {es : List Expr} {t ta tb tc : TD} {ts u v : DS} {pos : Pos}
/-! ### blocks -/
def dNext : DS := fun d ρ => d.nx ρ
def dSq (t u : DS) : DS := fun d ρ => t { d with nx := u d } ρ
theorem rss_nil : RSs X W [] dNext := ⟨_, pss_nil, fun F0 H0 ρ σ F H D d e c q => c.nx ρ σ F H e q⟩
theorem rss_cons (h : RS X W st u) (hr : RSs X W rest v) : RSs X W (st :: rest) (dSq u v) := by
  obtain ⟨t1, h1, h2⟩ := h.run
  obtain ⟨t2, a1, a2⟩ := hr.run
  refine ⟨_, pss_cons h1 a1, fun F0 H0 ρ σ F H D d e c q => h2 F0 H0 ρ σ F H _ { d with nx := v d } e ⟨fun ρ σ F H e q => a2 F0 H0 ρ σ F H D d e c q, c.rt, c.bk, c.ct, c.ex, c.rt1, c.rt2⟩ q⟩
theorem rss_one (h : RS X W st u) : RSs X W [st] u := by
  obtain ⟨t1, h1, h2⟩ := h.run
  exact ⟨_, pss_one h1, h2⟩
theorem rs_pass : RS X W (.Pass pos) dNext := ⟨_, ps_pass, fun F0 H0 ρ σ F H D d e c q => c.nx ρ σ F H e q⟩
def dBrk : DS := fun d ρ => d.bk ρ
def dCnt : DS := fun d ρ => d.ct ρ
theorem rs_break : RS X W (.Break pos) dBrk := ⟨_, ps_break, fun F0 H0 ρ σ F H D d e c q => c.bk ρ σ F H e q⟩
theorem rs_continue : RS X W (.Continue pos) dCnt := ⟨_, ps_continue, fun F0 H0 ρ σ F H D d e c q => c.ct ρ σ F H e q⟩
def dRet (t : TD) : DS := fun d ρ => t ρ d.rt (d.ex ρ)
theorem rs_ret (h : RE X W e t) : RS X W (.Return (some e) pos) (dRet t) := by
  obtain ⟨te, h1, h2⟩ := h.run
  exact ⟨_, ps_ret h1, fun F0 H0 ρ σ F H D d e c q => h2 ρ σ F H _ _ _ e.rl (c.ex ρ σ F H e) (fun x v F1 H1 g r q => c.rt x v F1 H1 (e.go.trans g) r q) q⟩
def dRetN : DS := fun d _ => d.rt .non
theorem rs_retN : RS X W (.Return none pos) dRetN := ⟨_, ps_retN, fun F0 H0 ρ σ F H D d e c q => c.rt .non .non F H e.go .non q⟩
def dDrop (t : TD) : DS := fun d ρ => t ρ (fun _ => d.nx ρ) (d.ex ρ)
theorem rs_expr (h : RE X W e t) (hs : swapsWith e none pos.line X.env = pure false := by rfl) : RS X W (.Expr e pos) (dDrop t) := by
  obtain ⟨te, h1, h2⟩ := h.run
  exact ⟨_, ps_expr h1 hs, fun F0 H0 ρ σ F H D d e c q => h2 ρ σ F H _ _ _ e.rl (c.ex ρ σ F H e) (fun x v F1 H1 g r q => c.nx ρ σ F1 H1 (e.step g) q) q⟩
def dIf (t : TDb) (u v : DS) : DS := fun d ρ => t ρ (fun b => ifP b (u d ρ) (v d ρ)) (d.ex ρ)
theorem rs_if {tb : TDb} {xs ys : List Stmt} (h : RT X W e tb) (ha : RSs X W xs u) (hb : RSs X W ys v) : RS X W (.If e xs ys pos) (dIf tb u v) := by
  obtain ⟨te, h1, h2⟩ := h.run
  obtain ⟨t1, a1, a2⟩ := ha.run
  obtain ⟨t2, b1, b2⟩ := hb.run
  refine ⟨_, ps_if h1 a1 b1, fun F0 H0 ρ σ F H D d e c q => h2 ρ σ F H _ _ _ e.rl (c.ex ρ σ F H e) (fun k F1 H1 g q => ?_) q⟩
  cases k with
  | true => exact a2 F0 H0 ρ σ F1 H1 D d (e.step g) c q
  | false => exact b2 F0 H0 ρ σ F1 H1 D d (e.step g) c q
/-! ### stores -/
theorem Ent.set {K : PySem.W.Frag} {F0 H0 : Hp} {ρ : Env'} {σ : L2.St} {F H : Hp} (e : Ent K F0 H0 ρ σ F H) (i : Nat) {d : D} {v : V} (r : Rep K F d v) : Ent K F0 H0 (ρ.set i (.sh d)) (σ.set i (some v)) F H := by
  refine ⟨e.rl.set i r, e.go, fun j s p h o hs => ?_⟩
  by_cases hj : i = j
  · subst hj
    by_cases hl : i < ρ.length
    · rw [List.getElem?_set_self hl] at h; cases h; cases o
    · rw [List.getElem?_eq_none (by rw [List.length_set]; omega)] at h; cases h
  · rw [List.getElem?_set_ne hj] at h hs
    exact e.new j s p h o hs
theorem Ent.sets {K : PySem.W.Frag} {F0 H0 F H : Hp} : ∀ (us : List (Nat × D × V)) {ρ : Env'} {σ : L2.St}, Ent K F0 H0 ρ σ F H → (∀ u ∈ us, Rep K F u.2.1 u.2.2) → Ent K F0 H0 (us.foldl (fun r u => r.set u.1 (.sh u.2.1)) ρ) (us.foldl (fun s u => s.set u.1 (some u.2.2)) σ) F H
  | [], _, _, r, _ => r
  | u :: us, _, _, r, h => Ent.sets us (r.set u.1 (h u List.mem_cons_self)) fun v hv => h v (List.mem_cons_of_mem _ hv)
def dSet (i : Nat) (t : TD) : DS := fun d ρ => t ρ (fun x => d.nx (ρ.set i (.sh x))) (d.ex ρ)
theorem rs_set (i : Nat) {x : Str} {pos' : Pos} (hN : X.N.Nodup) (h : RE X W e t) (hi : X.N[i]? = some x := by rfl) (hx : Loc X.env.scope x := by first | exact Or.inl rfl | exact Or.inr rfl) (hs : swapsWith e (some (.Name x pos')) pos.line X.env = pure false := by rfl) (hf : X.fn x = true ∨ X.env.scope.names.lookup x = some .local := by first | exact .inl rfl | exact .inr rfl) :
    RS X W (.Assign [.Name x pos'] e pos) (dSet i t) := by
  obtain ⟨te, h1, h2⟩ := h.run
  exact ⟨_, ps_set hN hi hx h1 hs hf, fun F0 H0 ρ σ F H D d e c q => h2 ρ σ F H _ _ _ e.rl (c.ex ρ σ F H e) (fun x v F1 H1 g r q => c.nx _ _ F1 H1 ((e.step g).set i r) q) q⟩
/-- a list of one's own at a name -/
theorem Ent.setOw {K : PySem.W.Frag} {F0 H0 : Hp} {ρ : Env'} {σ : L2.St} {F H F1 H1 : Hp} (e : Ent K F0 H0 ρ σ F H) (g : Go F H F1 H1) (i : Nat) {ds : List D} {p : Addr} {vs : List V} (np : H p = none) (hp : H1 p = some (.lst vs)) (fp : F1 p = none) (z : vs.length ≤ sizeLine) (r : Reps K F1 ds vs) :
    Ent K F0 H0 (ρ.set i (.ow ds)) (σ.set i (some (.ref p))) F1 H1 := by
  have e1 := e.step g
  have lt : ∀ {s : Sl}, (ρ.set i (.ow ds))[i]? = some s → i < ρ.length := fun h => by
    have z := (List.getElem?_eq_some_iff.mp h).1
    rw [List.length_set] at z; exact z
  have at_i : ∀ {s : Sl}, (ρ.set i (.ow ds))[i]? = some s → s = .ow ds ∧ (σ.set i (some (.ref p)))[i]? = some (some (.ref p)) := fun h => by
    have l := lt h
    rw [List.getElem?_set_self l] at h
    exact ⟨(Option.some.inj h).symm, List.getElem?_set_self (by rw [← e.rl.len]; exact l)⟩
  have ne : ∀ {j : Nat}, i ≠ j → (ρ.set i (.ow ds))[j]? = ρ[j]? ∧ (σ.set i (some (.ref p)))[j]? = σ[j]? := fun h => ⟨List.getElem?_set_ne h, List.getElem?_set_ne h⟩
  have old : ∀ {j : Nat} {s : Sl} {q : Addr}, ρ[j]? = some s → s.own = true → σ[j]? = some (some (.ref q)) → q ≠ p := fun {j s q} h o hs z => by
    subst z
    cases s with
    | no => cases o
    | sh d => cases o
    | ow es =>
      obtain ⟨p', _, h1, h2, _⟩ := e.rl.ow j es h
      rw [h1] at hs; cases hs; rw [np] at h2; cases h2
    | oi C fs =>
      obtain ⟨p', _, _, h1, h2, _⟩ := e.rl.oi j C fs h
      rw [h1] at hs; cases hs; rw [np] at h2; cases h2
    | od kvs =>
      obtain ⟨p', _, h1, h2, _⟩ := e.rl.od j kvs h
      rw [h1] at hs; cases hs; rw [np] at h2; cases h2
  refine ⟨⟨by rw [List.length_set, List.length_set]; exact e.rl.len, e1.rl.fh, fun j d h => ?_, fun j es h => ?_, fun j C fs h => ?_, fun j kvs h => ?_, fun j k s s' w h1 o1 h2 o2 h3 h4 => ?_⟩, e1.go, fun j s q h o hs => ?_⟩
  · by_cases hj : i = j
    · subst hj; cases (at_i h).1
    · rw [(ne hj).1] at h; rw [(ne hj).2]; exact e1.rl.sh j d h
  · by_cases hj : i = j
    · subst hj
      obtain ⟨q1, q2⟩ := at_i h
      cases q1
      exact ⟨p, vs, q2, hp, fp, z, r⟩
    · rw [(ne hj).1] at h; rw [(ne hj).2]; exact e1.rl.ow j es h
  · by_cases hj : i = j
    · subst hj; cases (at_i h).1
    · rw [(ne hj).1] at h; rw [(ne hj).2]; exact e1.rl.oi j C fs h
  · by_cases hj : i = j
    · subst hj; cases (at_i h).1
    · rw [(ne hj).1] at h; rw [(ne hj).2]; exact e1.rl.od j kvs h
  · by_cases hj : i = j
    · by_cases hk : i = k
      · rw [← hj, hk]
      · subst hj
        rw [(at_i h1).2] at h3; cases h3
        rw [(ne hk).1] at h2; rw [(ne hk).2] at h4
        exact absurd rfl (old h2 o2 h4)
    · by_cases hk : i = k
      · subst hk
        rw [(at_i h2).2] at h4; cases h4
        rw [(ne hj).1] at h1; rw [(ne hj).2] at h3
        exact absurd rfl (old h1 o1 h3)
      · rw [(ne hj).1] at h1; rw [(ne hj).2] at h3; rw [(ne hk).1] at h2; rw [(ne hk).2] at h4
        exact e.rl.inj j k s s' w h1 o1 h2 o2 h3 h4
  · by_cases hj : i = j
    · subst hj
      rw [(at_i h).2] at hs; cases hs
      exact e.go.hh.free np
    · rw [(ne hj).1] at h; rw [(ne hj).2] at hs; exact e.new j s q h o hs
def dOwn (i : Nat) (t : TDs) : DS := fun d ρ => t ρ (fun x => d.nx (ρ.set i (.ow x))) (d.ex ρ)
theorem rs_own (i : Nat) {x : Str} {pos' : Pos} {tn : TDs} (hN : X.N.Nodup) (h : RN X W e tn) (hi : X.N[i]? = some x := by rfl) (hx : Loc X.env.scope x := by first | exact Or.inl rfl | exact Or.inr rfl) (hs : swapsWith e (some (.Name x pos')) pos.line X.env = pure false := by rfl) (hf : X.fn x = true ∨ X.env.scope.names.lookup x = some .local := by first | exact .inl rfl | exact .inr rfl) :
    RS X W (.Assign [.Name x pos'] e pos) (dOwn i tn) := by
  obtain ⟨te, h1, h2⟩ := h.run
  exact ⟨_, ps_set hN hi hx h1 hs hf, fun F0 H0 ρ σ F H D d e c q => h2 ρ σ F H _ _ _ e.rl (c.ex ρ σ F H e) (fun ds p vs F1 H1 g np hp fp z r q => c.nx _ _ F1 H1 (e.setOw g i np hp fp z r) q) q⟩
/-- y = [..], y a plain local name -/
theorem rs_ownLc (i : Nat) {y : Str} {py : Pos} {elt tg iter : Expr} {ifs : List Expr} {scope : Scope} {own : List (Str × Nat)} {pos' spos : Pos} {ti : TDs} {g : DG} {js : List Nat} {tt : TDb} {te : TD} (hN : X.N.Nodup) (hi : RI X W tg iter ti) (ok : BlkOk X.N X.env.scope scope own)
    (hg : ∀ (s : Shared) (H : Hp) (C : Addr) (cl : List (Str × Addr)) (fp : List Addr), RG (X.blk s H scope (compEnvC scope cl C X.env) fp) tg js g)
    (ht : ∀ (s : Shared) (H : Hp) (C : Addr) (cl : List (Str × Addr)) (fp : List Addr), RTs (X.blk s H scope (compEnvC scope cl C X.env) fp) W0 ifs tt)
    (he : ∀ (s : Shared) (H : Hp) (C : Addr) (cl : List (Str × Addr)) (fp : List Addr), RE (X.blk s H scope (compEnvC scope cl C X.env) fp) W0 elt te)
    (hsw : swapsWith (.ListComp elt [⟨tg, iter, ifs, 0⟩] scope pos') (some (.Name y py)) spos.line X.env = pure true)
    (hy : X.N[i]? = some y := by rfl) (hyl : X.env.scope.names.lookup y = some .local := by rfl)
    {vs : List Nat} (hv : own.map (·.2) = vs := by rfl) (hjs : ∀ i ∈ js, i ∈ vs := by decide) (hc : X.calm = true := by rfl) (hs : ∀ x, foldedSetIterable iter X.env x = pure x := by intro _; rfl) :
    RS X W (.Assign [.Name y py] (.ListComp elt [⟨tg, iter, ifs, 0⟩] scope pos') spos) (dOwn i (dLcN ti g tt te vs)) := by
  subst hv
  obtain ⟨wi, h1, h2⟩ := hi.run
  refine ⟨_, ps_setLc (g := liftG X.K js g) (tt := liftT X.K W0 tt) (te := liftE X.K W0 te) hc hN hy hyl hsw h1 ok (fun s H C cl fp => (hg s H C cl fp).lift) (fun s H C cl fp => (ht s H C cl fp).lift) (fun s H C cl fp => (he s H C cl fp).lift) hs, fun F0 H0 ρ σ F H D d e c q => ?_⟩
  exact lc_run (Q := fun x H1 => gName i x σ H1 D.nx) hjs h2 e.rl (c.ex ρ σ F H e) (fun ds p vs F1 H1 g np hp fp z r q => c.nx _ _ F1 H1 (e.setOw g i np hp fp z r) q) q
theorem rs_setLc (i : Nat) {y : Str} {py : Pos} {elt tg iter : Expr} {ifs : List Expr} {scope : Scope} {own : List (Str × Nat)} {pos' spos : Pos} {ti : TDs} {g : DG} {js : List Nat} {tt : TDb} {te : TD} (hN : X.N.Nodup) (hi : RI X W tg iter ti) (ok : BlkOk X.N X.env.scope scope own)
    (hg : ∀ (s : Shared) (H : Hp) (C : Addr) (cl : List (Str × Addr)) (fp : List Addr), RG (X.blk s H scope (compEnvC scope cl C X.env) fp) tg js g)
    (ht : ∀ (s : Shared) (H : Hp) (C : Addr) (cl : List (Str × Addr)) (fp : List Addr), RTs (X.blk s H scope (compEnvC scope cl C X.env) fp) W0 ifs tt)
    (he : ∀ (s : Shared) (H : Hp) (C : Addr) (cl : List (Str × Addr)) (fp : List Addr), RE (X.blk s H scope (compEnvC scope cl C X.env) fp) W0 elt te)
    (hsw : swapsWith (.ListComp elt [⟨tg, iter, ifs, 0⟩] scope pos') (some (.Name y py)) spos.line X.env = pure true)
    (hy : X.N[i]? = some y := by rfl) (hyl : X.env.scope.names.lookup y = some .local := by rfl)
    {vs : List Nat} (hv : own.map (·.2) = vs := by rfl) (hjs : ∀ i ∈ js, i ∈ vs := by decide) (hc : X.calm = true := by rfl) (hs : ∀ x, foldedSetIterable iter X.env x = pure x := by intro _; rfl) :
    RS X W (.Assign [.Name y py] (.ListComp elt [⟨tg, iter, ifs, 0⟩] scope pos') spos) (dSet i (dLc ti g tt te vs)) := by
  subst hv
  obtain ⟨wi, h1, h2⟩ := hi.run
  refine ⟨_, ps_setLc (g := liftG X.K js g) (tt := liftT X.K W0 tt) (te := liftE X.K W0 te) hc hN hy hyl hsw h1 ok (fun s H C cl fp => (hg s H C cl fp).lift) (fun s H C cl fp => (ht s H C cl fp).lift) (fun s H C cl fp => (he s H C cl fp).lift) hs, fun F0 H0 ρ σ F H D d e c q => ?_⟩
  exact lc_run (Q := fun x H1 => gName i x σ H1 D.nx) hjs h2 e.rl (c.ex ρ σ F H e) (fun ds p vs F1 H1 g np hp fp z r q => c.nx _ _ _ H1 ((e.step (g.freeze np hp fp)).set i (.lst upd_same z (r.mono (same_upd fp)))) q) q
/-- a list of one's own is changed -/
theorem Ent.putOw {K : PySem.W.Frag} {F0 H0 : Hp} {ρ : Env'} {σ : L2.St} {F H : Hp} (e : Ent K F0 H0 ρ σ F H) {i : Nat} {ds es : List D} {p : Addr} {ws : List V} (hi : ρ[i]? = some (.ow ds)) (hs : σ[i]? = some (some (.ref p))) (z : ws.length ≤ sizeLine) (r : Reps K F es ws) :
    Ent K F0 H0 (ρ.set i (.ow es)) σ F (upd H p (.lst ws)) := by
  obtain ⟨p', vs, h1, h2, h3, h4, h5⟩ := e.rl.ow i ds hi
  rw [hs] at h1; cases h1
  have h0 := e.new i _ p hi rfl hs
  have il := (List.getElem?_eq_some_iff.mp hi).1
  have at_i : ∀ {s : Sl}, (ρ.set i (.ow es))[i]? = some s → s = .ow es := fun h => by
    rw [List.getElem?_set_self il] at h; exact (Option.some.inj h).symm
  have ne : ∀ {j : Nat}, i ≠ j → (ρ.set i (.ow es))[j]? = ρ[j]? := fun h => List.getElem?_set_ne h
  have np : ∀ {j : Nat} {s : Sl} {q : Addr}, i ≠ j → ρ[j]? = some s → s.own = true → σ[j]? = some (some (.ref q)) → q ≠ p := fun {j s q} hj h o hq z => by
    subst z
    exact hj (e.rl.inj i j _ s _ hi rfl h o hs hq)
  have sm : ∀ {A : Hp}, A p = none → Same A H → Same A (upd H p (.lst ws)) := fun n s b u q => by
    rw [upd_ne (ne_of_none q n)]; exact s b u q
  refine ⟨⟨by rw [List.length_set]; exact e.rl.len, sm h3 e.rl.fh, fun j d h => ?_, fun j fs h => ?_, fun j C fs h => ?_, fun j kvs h => ?_, fun j k s s' w g1 o1 g2 o2 g3 g4 => ?_⟩, ⟨e.go.ff, sm h0 e.go.hh, sm h3 e.rl.fh, e.go.nn⟩, fun j s q h o hq => ?_⟩
  · by_cases hj : i = j
    · subst hj; cases at_i h
    · rw [ne hj] at h; exact e.rl.sh j d h
  · by_cases hj : i = j
    · subst hj
      cases at_i h
      exact ⟨p, ws, hs, upd_same, h3, z, r⟩
    · rw [ne hj] at h
      obtain ⟨q, us, g1, g2, g3⟩ := e.rl.ow j fs h
      exact ⟨q, us, g1, by rw [upd_ne (np hj h rfl g1)]; exact g2, g3⟩
  · by_cases hj : i = j
    · subst hj; cases at_i h
    · rw [ne hj] at h
      obtain ⟨q, dx, us, g1, g2, g3⟩ := e.rl.oi j C fs h
      exact ⟨q, dx, us, g1, by rw [upd_ne (np hj h rfl g1)]; exact g2, g3⟩
  · by_cases hj : i = j
    · subst hj; cases at_i h
    · rw [ne hj] at h
      obtain ⟨q, us, g1, g2, g3⟩ := e.rl.od j kvs h
      exact ⟨q, us, g1, by rw [upd_ne (np hj h rfl g1)]; exact g2, g3⟩
  · have low : ∀ {j : Nat} {s : Sl}, (ρ.set i (.ow es))[j]? = some s → s.own = true → ∃ s', ρ[j]? = some s' ∧ s'.own = true := fun {j s} h o => by
      by_cases hj : i = j
      · subst hj; exact ⟨_, hi, rfl⟩
      · rw [ne hj] at h; exact ⟨s, h, o⟩
    obtain ⟨s1, q1, q2⟩ := low g1 o1
    obtain ⟨s2, q3, q4⟩ := low g2 o2
    exact e.rl.inj j k s1 s2 w q1 q2 q3 q4 g3 g4
  · by_cases hj : i = j
    · subst hj; rw [hs] at hq; cases hq; exact h0
    · rw [ne hj] at h; exact e.new j s q h o hq
/-- where a list of one's own is wanted -/
def owAt (ρ : Env') (i : Nat) (Q : List D → Prop) : Prop := match ρ[i]? with
  | some (.ow ds) => Q ds
  | _ => False
theorem owAt_inv {ρ : Env'} {i : Nat} {Q : List D → Prop} (h : owAt ρ i Q) : ∃ ds, ρ[i]? = some (.ow ds) ∧ Q ds := by
  unfold owAt at h
  split at h
  · exact ⟨_, by assumption, h⟩
  · exact h.elim
/-- x.append(e), x a list of one's own -/
def dApp (i : Nat) (t : TD) : DS := fun d ρ => owAt ρ i fun ds => t ρ (fun y => few (ds ++ [y]) ∧ d.nx (ρ.set i (.ow (ds ++ [y])))) (d.ex ρ)
theorem rs_app (i : Nat) {x : Str} {p1 apos cpos : Pos} (h : RE X W e t) (hN : X.N[i]? = some x := by rfl) (hv : Vis X.env.scope x := by first | exact Or.inl rfl | exact Or.inr (Or.inl rfl) | exact Or.inr (Or.inr rfl))
    (hd : (x == ("__debug__" : Str)) = false := by decide) (hcd : (x == ("__classdict__" : Str)) = false := by decide)
    (hbase : attributeBase (.Name x p1) "append" X.env (eval (.Name x p1) X.env) = eval (.Name x p1) X.env := by rfl)
    (hfew : ((backTo cpos (starEach [e] X.env)).all (fun x => !x.1) && (backToKw cpos (keywordEach [] X.env)).all (fun x => x.1.isSome)
      && decide (([e] : List Expr).length + ([] : List Keyword).length + (if ([] : List Keyword).isEmpty then 0 else 1) < 30)) = true := by rfl)
    (hline : (apos.endLine == cpos.line) = true := by rfl) (hs : starEach [e] X.env = (false, eval e X.env) :: starEach [] X.env := by rfl) (hplain : (backTo cpos (starEach [] X.env)).any (·.1) = false := by rfl)
    (hsw : swapsWith (.Call (.Attribute (.Name x p1) "append" apos) [e] [] cpos) none pos.line X.env = pure false := by rfl) :
    RS X W (.Expr (.Call (.Attribute (.Name x p1) "append" apos) [e] [] cpos) pos) (dApp i t) := by
  obtain ⟨te, h1, h2⟩ := h.run
  refine ⟨_, ps_expr (pe_bm PySem.F.plainAttrs_list PySem.F.slot_list_append PySem.F.type_list_append mt_append (pe_var hN hv hd hcd) (pa_cons h1 pa_nil hs) hbase hfew hline hs hplain) hsw, fun F0 H0 ρ σ F H D d e c q => ?_⟩
  obtain ⟨ds, ho, q⟩ := owAt_inv q
  obtain ⟨p, vs, g1, g2, g3, g4, g5⟩ := e.rl.ow i ds ho
  refine ⟨_, g1, .inl ⟨rfl, vs, SqL.of g2⟩, ?_⟩
  refine h2 ρ σ F H _ _ _ e.rl (c.ex ρ σ F H e) (fun y v F1 H1 g r q1 => ?_) q
  have e1 := e.step g
  obtain ⟨p', vs', g1', g2', g3', g4', g5'⟩ := e1.rl.ow i ds ho
  rw [g1] at g1'; cases g1'
  have zz : (vs' ++ [v]).length ≤ sizeLine := few_line (g5'.append (.cons r .nil)) q1.1
  refine ⟨p, vs', v, rfl, rfl, g2', by rw [List.length_append, List.length_singleton] at zz; omega, ?_⟩
  exact c.nx _ _ F1 _ (e1.putOw ho g1 zz (g5'.append (.cons r .nil))) q1.2
theorem setV_len {xs : List V} {i : Nat} {v : V} : (xs.set i v).length = xs.length := List.length_set
/-- x[i] = e, x a list of one's own -/
def dPut (i : Nat) (ti te : TD) : DS := fun d ρ => te ρ (fun y => owAt ρ i fun ds => ti ρ (asI fun k => asO (fun j => d.nx (ρ.set i (.ow (ds.set j y)))) (ixN ds.length k)) (d.ex ρ)) (d.ex ρ)
theorem rs_put (i : Nat) {x : Str} {p1 spos : Pos} (hk : RP X W a ta) (h : RE X W e t) (hN : X.N[i]? = some x := by rfl) (hv : Vis X.env.scope x := by first | exact Or.inl rfl | exact Or.inr (Or.inl rfl) | exact Or.inr (Or.inr rfl))
    (hd : (x == ("__debug__" : Str)) = false := by decide) (hcd : (x == ("__classdict__" : Str)) = false := by decide)
    (hs : swapsWithSole [.Subscript (.Name x p1) a spos] e pos.line X.env = pure false := by rfl) (hw : swappedStores [.Subscript (.Name x p1) a spos] e X.env = pure none := by rfl)
    (h1 : (assignEach [.Subscript (.Name x p1) a spos] X.env).map (·.2) = [assign (.Subscript (.Name x p1) a spos) X.env] := by rfl)
    (ha : ∀ v, assign (.Subscript (.Name x p1) a spos) X.env v = (holding [v] (eval (.Name x p1) X.env) >>= fun ov => holding [v, ov] (eval a X.env) >>= fun iv => standAt spos >>= fun _ => holding [v, ov, iv] (setItem ov iv v) >>= fun _ => release [v, ov, iv] []) := by intro _; rfl) :
    RS X W (.Assign [.Subscript (.Name x p1) a spos] e pos) (dPut i ta t) := by
  obtain ⟨tk, k1, k2⟩ := hk.run
  obtain ⟨te, e1, e2⟩ := h.run
  refine ⟨_, ps_asg e1 (pg_sub (pe_var hN hv hd hcd) k1 set_list ha) hs hw h1, fun F0 H0 ρ σ F H D d en c q => ?_⟩
  refine e2 ρ σ F H _ _ _ en.rl (c.ex ρ σ F H en) (fun y v F1 H1 g r q1 => ?_) q
  obtain ⟨ds, ho, q2⟩ := owAt_inv q1
  have en1 := en.step g
  obtain ⟨p, vs, g1, g2, g3, g4, g5⟩ := en1.rl.ow i ds ho
  refine ⟨_, g1, ?_⟩
  refine k2 ρ σ F1 H1 _ _ _ en1.rl (c.ex ρ σ F1 H1 en1) (fun kd kv F2 H2 gg pk q3 => ?_) q2
  obtain ⟨k, rfl, q4⟩ := asI_inv q3
  obtain ⟨j, hj, q5⟩ := asO_inv q4
  cases pk.int
  have en2 := en1.step gg
  obtain ⟨p', vs', g1', g2', g3', g4', g5'⟩ := en2.rl.ow i ds ho
  rw [g1] at g1'; cases g1'
  have zz : (vs'.set j v).length ≤ sizeLine := by rw [List.length_set]; exact g4'
  exact ⟨p, vs', k, j, rfl, rfl, g2', by rw [g5'.length]; exact hj, c.nx _ _ F2 _ (en2.putOw ho g1 zz (g5'.set (r.mono gg.ff) j)) q5⟩
/-- what is read of a list by its place, by the machine's own rule -/
theorem get_list : PGet X (rIxL X.K) := by
  intro pins s σ H x y v u Q I rx ry h
  obtain ⟨p, xs, i, z, rfl, rfl, hq, he, q⟩ := h
  cases rx
  obtain ⟨t, rfl⟩ := ry
  obtain ⟨its, r, pl, hz⟩ := I.list hq
  obtain ⟨j, h1, h2, h3, h4, h5⟩ := atI_get he
  obtain ⟨w, ew, rw'⟩ := r.get h2
  have hl := r.length
  have hn := line63
  have fin : EP X pins σ Q w s := ⟨z, H, I, rw', q⟩
  by_cases h0 : 0 ≤ i
  · have hj : i.toNat = j := by
      rw [seqIndex_of h0 h5] at h1
      exact Option.some.inj h1
    exact wpAny_getItem_list pl.isList h0 (by omega) (by rw [hj]; simpa using ew) fin
  · have hj : (i + (its.toArray.size : Int)).toNat = j := by
      rw [seqIndex_neg (by omega) h4] at h1
      rw [List.size_toArray, ← hl]
      exact Option.some.inj h1
    exact wpAny_getItem_list_neg pl.isList (by omega) (by rw [List.size_toArray] <;> omega) (by omega) (by rw [hj]; simpa using ew) fin
/-- x[i] op= e, x a list of one's own -/
def dAugO (i : Nat) (k : KD) (ti te : TD) : DS := fun d ρ => owAt ρ i fun ds => ti ρ (asI fun n => asO (fun j => asO (fun x => te ρ (fun y => k x y fun z => d.nx (ρ.set i (.ow (ds.set j z)))) (d.ex ρ)) ds[j]?) (ixN ds.length n)) (d.ex ρ)
theorem rs_augO (i : Nat) {op : Operator} {k : KD} {x : Str} {p1 spos : Pos} (hop : OpD X (inplaceOp op) k) (hk : RP X W a ta) (h : RE X W e t) (hN : X.N[i]? = some x := by rfl) (hv : Vis X.env.scope x := by first | exact Or.inl rfl | exact Or.inr (Or.inl rfl) | exact Or.inr (Or.inr rfl))
    (hd : (x == ("__debug__" : Str)) = false := by decide) (hcd : (x == ("__classdict__" : Str)) = false := by decide)
    (ha : ∀ ov iv new, augStore a ov iv new = (holding [new, ov, iv] (setItem ov iv new) >>= fun _ => release [new, ov, iv] [] >>= fun _ => pure .next) := by intros; rfl) :
    RS X W (.AugAssign (.Subscript (.Name x p1) a spos) op e pos) (dAugO i k ta t) := by
  obtain ⟨tk, k1, k2⟩ := hk.run
  obtain ⟨te, e1, e2⟩ := h.run
  obtain ⟨r, o1, o2⟩ := hop
  refine ⟨_, ps_augS (pe_var hN hv hd hcd) k1 get_list e1 o1 set_list ha, fun F0 H0 ρ σ F H D d en c q => ?_⟩
  obtain ⟨ds, ho, q2⟩ := owAt_inv q
  obtain ⟨p, vs, g1, g2, g3, g4, g5⟩ := en.rl.ow i ds ho
  refine ⟨_, g1, ?_⟩
  refine k2 ρ σ F H _ _ _ en.rl (c.ex ρ σ F H en) (fun kd kv F2 H2 gg pk q3 => ?_) q2
  obtain ⟨n, rfl, q4⟩ := asI_inv q3
  obtain ⟨j, hj, q5⟩ := asO_inv q4
  obtain ⟨xd, hx, q6⟩ := asO_inv q5
  cases pk.int
  have en2 := en.step gg
  obtain ⟨p', vs', g1', g2', g3', g4', g5'⟩ := en2.rl.ow i ds ho
  rw [g1] at g1'; cases g1'
  obtain ⟨xv, hxv, rx⟩ := g5'.get hx
  refine ⟨p, vs', n, xv, rfl, rfl, SqL.of g2', by unfold atI; rw [g5'.length, hj]; exact hxv, ?_⟩
  refine e2 ρ σ F2 H2 _ _ _ en2.rl (c.ex ρ σ F2 H2 en2) (fun y v F3 H3 g r q7 => ?_) q6
  refine o2 _ _ _ _ F3 H3 _ _ g.fh (.inl (rx.mono g.ff)) (.inl r) (fun z zv F4 H4 g' rz q8 => ?_) q7
  have en4 := (en2.step g).step g'
  obtain ⟨p3, vs3, g1', g2', g3', g4', g5'⟩ := en4.rl.ow i ds ho
  rw [g1] at g1'; cases g1'
  have zz : (vs3.set j zv).length ≤ sizeLine := by rw [List.length_set]; exact g4'
  exact ⟨p, vs3, n, j, rfl, rfl, g2', by rw [g5'.length]; exact hj, c.nx _ _ F4 _ (en4.putOw ho g1 zz (g5'.set rz j)) q8⟩
/-- x op= e -/
def dAug (i : Nat) (k : KD) (t : TD) : DS := fun d ρ => match ρ[i]? with
  | some (.sh x) => t ρ (fun y => k x y fun z => d.nx (ρ.set i (.sh z))) (d.ex ρ)
  | _ => False
theorem rs_aug (i : Nat) {op : Operator} {k : KD} {x : Str} {pos' : Pos} (hop : OpD X (inplaceOp op) k) (hN : X.N.Nodup) (h : RE X W e t) (hi : X.N[i]? = some x := by rfl) (hx : Loc X.env.scope x := by first | exact Or.inl rfl | exact Or.inr rfl) (hf : X.fn x = true ∨ X.env.scope.names.lookup x = some .local := by first | exact .inl rfl | exact .inr rfl) :
    RS X W (.AugAssign (.Name x pos') op e pos) (dAug i k t) := by
  obtain ⟨te, e1, e2⟩ := h.run
  obtain ⟨r, o1, o2⟩ := hop
  refine ⟨_, ps_aug hN hi hx e1 o1 hf, fun F0 H0 ρ σ F H D d en c q => ?_⟩
  unfold dAug at q
  split at q
  · rename_i xd hx
    obtain ⟨xv, h1, h2⟩ := en.rl.sh i xd hx
    refine ⟨xv, h1, e2 ρ σ F H _ _ _ en.rl (c.ex ρ σ F H en) (fun y v F1 H1 g r q1 => ?_) q⟩
    exact o2 _ _ _ _ F1 H1 _ _ g.fh (.inl (h2.mono g.ff)) (.inl r) (fun z zv F2 H2 g' rz q2 => c.nx _ _ F2 H2 (((en.step g).step g').set i rz) q2) q1
  · exact q.elim
theorem opd_iadd : OpD X (inplaceOp .Add) kAddI := opd_rI0 iop_add fun x y Q h => by
  obtain ⟨i, j, rfl, rfl, q⟩ := k2_inv h
  exact ⟨i, j, _, rfl, rfl, fun _ _ => .int _, q⟩
theorem opd_isub : OpD X (inplaceOp .Sub) kSub := opd_rI0 iop_sub fun x y Q h => by
  obtain ⟨i, j, rfl, rfl, q⟩ := k2_inv h
  exact ⟨i, j, _, rfl, rfl, fun _ _ => .int _, q⟩
/-- a list of one's own is given out of hand -/
def dFrz (i : Nat) (u : DS) : DS := fun d ρ => match ρ[i]? with
  | some (.ow ds) => u d (ρ.set i (.sh (.lst ds)))
  | _ => u d ρ
theorem rss_frz (i : Nat) {sts : List Stmt} (h : RSs X W sts u) : RSs X W sts (dFrz i u) := by
  obtain ⟨ts, h1, h2⟩ := h.run
  refine ⟨ts, h1, fun F0 H0 ρ σ F H D d en c q => ?_⟩
  unfold dFrz at q
  split at q
  · rename_i ds ho
    obtain ⟨p, vs, g1, g2, g3, g4, g5⟩ := en.rl.ow i ds ho
    have h0 := en.new i _ p ho rfl g1
    have sm : Same F (upd F p (.lst vs)) := same_upd g3
    have fz : Same (upd F p (.lst vs)) H := fun b u q => by
      by_cases z : b = p
      · subst z; rw [upd_same] at q; cases q; exact g2
      · rw [upd_ne z] at q; exact en.rl.fh _ _ q
    have il := (List.getElem?_eq_some_iff.mp ho).1
    have at_i : ∀ {s : Sl}, (ρ.set i (.sh (.lst ds)))[i]? = some s → s = .sh (.lst ds) := fun h => by
      rw [List.getElem?_set_self il] at h; exact (Option.some.inj h).symm
    have ne : ∀ {j : Nat}, i ≠ j → (ρ.set i (.sh (.lst ds)))[j]? = ρ[j]? := fun h => List.getElem?_set_ne h
    have np : ∀ {j : Nat} {s : Sl} {q : Addr}, i ≠ j → ρ[j]? = some s → s.own = true → σ[j]? = some (some (.ref q)) → q ≠ p := fun {j s q} hj h o hq z => by
      subst z
      exact hj (en.rl.inj i j _ s _ ho rfl h o g1 hq)
    refine h2 F0 H0 _ σ (upd F p (.lst vs)) H D d ⟨⟨by rw [List.length_set]; exact en.rl.len, fz, fun j d h => ?_, fun j fs h => ?_, fun j C fs h => ?_, fun j kvs h => ?_, fun j k s s' w q1 o1 q2 o2 q3 q4 => ?_⟩, ⟨en.go.ff.trans sm, en.go.hh, fz, fun q q1 q2 => ?_⟩, fun j s q h o hq => ?_⟩ c q
    · by_cases hj : i = j
      · subst hj
        cases at_i h
        exact ⟨_, g1, .lst upd_same g4 (g5.mono sm)⟩
      · rw [ne hj] at h
        obtain ⟨v, q1, q2⟩ := en.rl.sh j d h
        exact ⟨v, q1, q2.mono sm⟩
    · by_cases hj : i = j
      · subst hj; cases at_i h
      · rw [ne hj] at h
        obtain ⟨q, us, q1, q2, q3, q4, q5⟩ := en.rl.ow j fs h
        exact ⟨q, us, q1, q2, by rw [upd_ne (np hj h rfl q1)]; exact q3, q4, q5.mono sm⟩
    · by_cases hj : i = j
      · subst hj; cases at_i h
      · rw [ne hj] at h
        obtain ⟨q, dx, us, q1, q2, q3, q5, q6⟩ := en.rl.oi j C fs h
        exact ⟨q, dx, us, q1, q2, by rw [upd_ne (np hj h rfl q1)]; exact q3, q5.mono sm, q6⟩
    · by_cases hj : i = j
      · subst hj; cases at_i h
      · rw [ne hj] at h
        obtain ⟨q, us, q1, q2, q3, q5⟩ := en.rl.od j kvs h
        exact ⟨q, us, q1, q2, by rw [upd_ne (np hj h rfl q1)]; exact q3, q5.mono sm⟩
    · have low : ∀ {j : Nat} {s : Sl}, (ρ.set i (.sh (.lst ds)))[j]? = some s → s.own = true → ρ[j]? = some s := fun {j s} h o => by
        by_cases hj : i = j
        · subst hj; rw [at_i h] at o; cases o
        · rw [ne hj] at h; exact h
      exact en.rl.inj j k s s' w (low q1 o1) o1 (low q2 o2) o2 q3 q4
    · have : q ≠ p := fun z => by rw [z] at q2; exact q2 h0
      rw [upd_ne this]; exact en.go.nn q q1 q2
    · by_cases hj : i = j
      · subst hj; rw [at_i h] at o; cases o
      · rw [ne hj] at h; exact en.new j s q h o hq
  · exact h2 F0 H0 ρ σ F H D d en c q
end
end Dl

/-! The D-layer, part 9: targets, loops, raise, defs. -/
namespace Dl
open PySem PySem.Spec
open PyProof.Rows L2
section
variable {X : Cx} {W : WX} {st : Stmt} {rest : List Stmt} {e a b c tg : Expr} {es : List Expr} {t ta tb tc : TD} {ts : TDs} {u v : DS} {pos : Pos}
/-! ### (a, b) = e; a, b = x, y -/
def dAsg (t : TD) (g : DG) : DS := fun d ρ => t ρ (fun x => g x ρ d.nx) (d.ex ρ)
theorem rs_asg {js : List Nat} {g : DG} (h : RE X W e t) (hg : RG X tg js g) (hs : swapsWithSole [tg] e pos.line X.env = pure false := by rfl) (hw : swappedStores [tg] e X.env = pure none := by rfl)
    (h1 : (assignEach [tg] X.env).map (·.2) = [assign tg X.env] := by rfl) : RS X W (.Assign [tg] e pos) (dAsg t g) := by
  obtain ⟨te, e1, e2⟩ := h.run
  obtain ⟨g', g1, g2⟩ := hg.run
  refine ⟨_, ps_asg e1 g1 hs hw h1, fun F0 H0 ρ σ F H D d en c q => e2 ρ σ F H _ _ _ en.rl (c.ex ρ σ F H en) (fun x v F1 H1 g r q1 => ?_) q⟩
  refine g2 ρ σ F1 H1 x v _ _ en.rl.len g.fh r (fun ρ' σ' us e3 e4 hu q2 => ?_) q1
  rw [e4]
  rw [e3] at q2
  exact c.nx _ _ F1 H1 ((en.step g).sets us fun u hu' => (hu u hu').2) q2
def dPar (i j : Nat) (ts : TDs) : DS := fun d ρ => ts ρ (fun ds => match ds with
  | [x, y] => d.nx ((ρ.set i (.sh x)).set j (.sh y))
  | _ => False) (d.ex ρ)
theorem rs_par (i j : Nat) {x y : Str} {px py pt : Pos} {kt k2 : Nat} {pt2 : Pos} (hN : X.N.Nodup) (ha : RA X W [a, b] ts) (hw : swappedStores [.Tuple [.Name x px, .Name y py] kt pt] (.Tuple [a, b] k2 pt2) X.env = pure (some [x, y]) := by rfl)
    (hi : X.N[i]? = some x := by rfl) (hj : X.N[j]? = some y := by rfl) (hij : i ≠ j := by decide) (hx : X.env.scope.names.lookup x = some .local := by rfl) (hy : X.env.scope.names.lookup y = some .local := by rfl)
    (hc : X.calm = true := by rfl) (hs : swapsWithSole [.Tuple [.Name x px, .Name y py] kt pt] (.Tuple [a, b] k2 pt2) pos.line X.env = pure false := by rfl) :
    RS X W (.Assign [.Tuple [.Name x px, .Name y py] kt pt] (.Tuple [a, b] k2 pt2) pos) (dPar i j ts) := by
  obtain ⟨te, e1, e2⟩ := ha.run
  refine ⟨_, L2.ps_par hc hN hi hj hij hx hy e1 hw hs, fun F0 H0 ρ σ F H D d en c q => e2 ρ σ F H _ _ _ en.rl (c.ex ρ σ F H en) (fun ds vs F1 H1 g r q1 => ?_) q⟩
  match ds, q1 with
  | [p, q], q1 =>
    cases r with
    | cons r1 r =>
      cases r with
      | cons r2 r =>
        cases r
        exact ⟨_, _, rfl, c.nx _ _ F1 H1 (((en.step g).set i r1).set j r2) q1⟩
/-! ### for -/
def loopR (g : DG) (tb : DS) (d : DE) : List D → Env' → Prop
  | [], ρ => d.nx ρ
  | x :: xs, ρ => g x ρ fun ρ2 => tb { d with nx := loopR g tb d xs, ct := loopR g tb d xs, bk := d.nx } ρ2
/-- the same, shut: a reading stops there -/
structure loopD (g : DG) (tb : DS) (d : DE) (xs : List D) (ρ : Env') : Prop where
  out : loopR g tb d xs ρ
theorem loopD_eq (g : DG) (tb : DS) (d : DE) (xs : List D) : loopD g tb d xs = loopR g tb d xs := funext fun _ => propext ⟨fun h => h.out, fun h => ⟨h⟩⟩
def dFor (ti : TDs) (g : DG) (tb : DS) : DS := fun d ρ => ti ρ (fun xs => loopD g tb d xs ρ) (d.ex ρ)
theorem rs_for {iter : Expr} {body : List Stmt} {js : List Nat} {ti : TDs} {g : DG} (hp : PassesOwn (model X.prog X.w) X.A X.env X.xe) (hi : RI X W tg iter ti) (hg : RG X tg js g) (hb : RSs X W body u) (hc : X.calm = true := by rfl)
    (hs : ∀ x, foldedSetIterable iter X.env x = pure x := by intro _; rfl) : RS X W (.For tg iter body [] pos) (dFor ti g u) := by
  obtain ⟨wi, i1, i2⟩ := hi.run
  obtain ⟨tg', g1, g2⟩ := hg.run
  obtain ⟨ts, b1, b2⟩ := hb.run
  refine ⟨_, ps_for hp hc i1 g1 b1 hs, fun F0 H0 ρ σ F H D d en c q => ?_⟩
  refine i2 ρ σ F H _ _ _ en.rl (c.ex ρ σ F H en) (fun xs J F1 H1 gg jw zl q1 => ?_) q
  obtain ⟨G, Y, w, hG, hY⟩ := jw.go
  have en1 := en.step gg
  have cb := c.base en1.go
  refine for_it w (fun i σ' H' => ∃ ρ' F', Ent X.K F1 H0 ρ' σ' F' H' ∧ loopR g u d (xs.drop i) ρ') ⟨ρ, F1, en1.here, by rw [List.drop_zero]; exact q1.out⟩ ?_ ?_ ?_
  · rintro i σ' H' _ ⟨ρ', F', en', _⟩
    exact hG F' H' en'.go.ff en'.rl.fh
  · rintro i x σ' H' H'' hlt ⟨ρ', F', en', q2⟩ y
    obtain ⟨F2, xd, hd, g3, rx⟩ := hY i F' H' x H'' hlt en'.go.ff en'.rl.fh y
    rw [List.drop_eq_getElem_cons hlt] at q2
    have hd' : xs[i] = xd := by
      rw [List.getElem?_eq_getElem hlt] at hd
      exact Option.some.inj hd
    rw [hd'] at q2
    have en2 := en'.step g3
    refine g2 ρ' σ' F2 H'' xd x _ _ en2.rl.len g3.fh rx (fun ρ2 σ2 us e3 e4 hu q3 => ?_) q2
    have en3 : Ent X.K F1 H0 ρ2 σ2 F2 H'' := by
      rw [e3, e4]; exact en2.sets us fun u hu' => (hu u hu').2
    refine b2 F1 H0 ρ2 σ2 F2 H'' _ { d with nx := loopR g u d (xs.drop (i + 1)), ct := loopR g u d (xs.drop (i + 1)), bk := d.nx } en3 ⟨fun ρ σ F H e q => ⟨ρ, F, e, q⟩, cb.rt, cb.nx, fun ρ σ F H e q => ⟨ρ, F, e, q⟩, cb.ex, cb.rt1, cb.rt2⟩ q3
  · rintro σ' H' ⟨ρ', F', en', q2⟩
    rw [List.drop_length] at q2
    exact cb.nx ρ' σ' F' H' en' q2
/-- by an invariant over what is left -/
theorem loopR_by {g : DG} {tb : DS} {d : DE} (I : List D → Env' → Prop) (h0 : ∀ ρ, I [] ρ → d.nx ρ)
    (hs : ∀ x xs ρ, I (x :: xs) ρ → ∀ N : Env' → Prop, (∀ ρ', I xs ρ' → N ρ') → g x ρ fun ρ2 => tb { d with nx := N, ct := N, bk := d.nx } ρ2) : ∀ xs ρ, I xs ρ → loopR g tb d xs ρ
  | [], ρ, h => h0 ρ h
  | x :: xs, ρ, h => hs x xs ρ h _ fun ρ' h' => loopR_by I h0 hs xs ρ' h'
theorem loop_by {g : DG} {tb : DS} {d : DE} (I : List D → Env' → Prop) (h0 : ∀ ρ, I [] ρ → d.nx ρ)
    (hs : ∀ x xs ρ, I (x :: xs) ρ → ∀ N : Env' → Prop, (∀ ρ', I xs ρ' → N ρ') → g x ρ fun ρ2 => tb { d with nx := N, ct := N, bk := d.nx } ρ2) (xs : List D) (ρ : Env') (h : I xs ρ) : loopD g tb d xs ρ := ⟨loopR_by I h0 hs xs ρ h⟩
/-! ### while -/
def dWhile (c : TDb) (tb : DS) : DS := fun d ρ => ∃ I : Nat → Env' → Prop, (∃ m, I m ρ) ∧ ∀ m ρ, I m ρ →
  c ρ (fun b => ifP b (tb { d with nx := fun ρ' => ∃ m', m' < m ∧ I m' ρ', ct := fun ρ' => ∃ m', m' < m ∧ I m' ρ', bk := d.nx } ρ) (d.nx ρ)) (d.ex ρ)
theorem rs_while {tcc : TDb} {body : List Stmt} (hp : PassesOwn (model X.prog X.w) X.A X.env X.xe) (hc : RT X W e tcc) (hb : RSs X W body u) : RS X W (.While e body [] pos) (dWhile tcc u) := by
  obtain ⟨tt, c1, c2⟩ := hc.run
  obtain ⟨ts, b1, b2⟩ := hb.run
  refine ⟨_, ps_while hp c1 b1, fun F0 H0 ρ σ F H D d en c q => ?_⟩
  obtain ⟨I, ⟨m, hm⟩, turn⟩ := q
  refine ⟨fun m σ H => ∃ ρ F, Ent X.K F0 H0 ρ σ F H ∧ I m ρ, ⟨m, ρ, F, en, hm⟩, ?_⟩
  rintro m σ H ⟨ρ, F, en, hI⟩
  refine c2 ρ σ F H _ _ _ en.rl (c.ex ρ σ F H en) (fun k F1 H1 g q1 => ?_) (turn m ρ hI)
  cases k with
  | false => exact c.nx ρ σ F1 H1 (en.step g) q1
  | true =>
    refine ⟨fun σ' H' => ∃ ρ' F' m', m' < m ∧ Ent X.K F0 H0 ρ' σ' F' H' ∧ I m' ρ', fun σ' H' ⟨ρ', F', m', l, e', h'⟩ => ⟨m', l, ρ', F', e', h'⟩, ?_⟩
    exact b2 F0 H0 ρ σ F1 H1 _ { d with nx := fun ρ' => ∃ m', m' < m ∧ I m' ρ', ct := fun ρ' => ∃ m', m' < m ∧ I m' ρ', bk := d.nx } (en.step g)
      ⟨fun ρ σ F H e ⟨m', l, h⟩ => ⟨ρ, F, m', l, e, h⟩, c.rt, c.nx, fun ρ σ F H e ⟨m', l, h⟩ => ⟨ρ, F, m', l, e, h⟩, c.ex, c.rt1, c.rt2⟩ q1
/-! ### raise X('..'), X of one's own without __init__ -/
def dRaise (C : Addr) : DS := fun d ρ => d.ex ρ (.ins C [])
/-- what a raise asks of the text about its class -/
structure ExCls (K : PySem.W.Frag) (mg : Str → Option Value) (x : Str) (C : Addr) : Prop where
  ix : PySem.W.excIn K C [.type "ValueError", .type "Exception", .type "BaseException", .type "object"] "ValueError.__new__" = true
  gC : mg x = some (.ref C)
  kC : PySem.W.keepIn K (.ref C) = true
  bC : PySem.W.subIn K (.ref C) (.type "BaseException") = some true
  tC : PySem.W.typeIn K (.ref C) = some (.type "type")
theorem rs_raise {x m : Str} {j : Nat} {p p2 pos' : Pos} {C : Addr} (h : ExCls X.K X.mg x C) (tk : Takes X W) (hg : Gl X x := by rfl) (hc : X.calm = true := by rfl) (hdb : (x == ("__debug__" : Str)) = false := by decide) :
    RS X W (.Raise (some (.Call (.Name x p) [.Constant (.str m) j p2] [] pos')) none pos) (dRaise C) := by
  refine ⟨_, ps_raise hc tk (pmk_own PySem.F.excBase_ValueError h.ix h.gC h.kC (raises_own h.bC h.tC) hg hdb), fun F0 H0 ρ σ F H D d en c q => ?_⟩
  exact c.ex ρ σ F H en _ _ _ F H (.refl en.rl.fh) (.bare C) q
def dNever : DS := fun _ _ => False
theorem rs_never : RS X W st dNever := ⟨_, ps_never, fun F0 H0 ρ σ F H D d en c q => False.elim q⟩
/-! ### self.f = e, self being made -/
theorem Ent.putOi {K : PySem.W.Frag} {F0 H0 : Hp} {ρ : Env'} {σ : L2.St} {F H : Hp} (e : Ent K F0 H0 ρ σ F H) {i : Nat} {C : Addr × Addr} {fs fs' : List (Str × D)} {p dx : Addr} {ws : List (Str × V)} (hi : ρ[i]? = some (.oi C fs)) (hs : σ[i]? = some (some (.ref p))) (r : RepF K F fs' ws) :
    Ent K F0 H0 (ρ.set i (.oi C fs')) σ F (upd H p (.ins C.1 dx ws)) := by
  obtain ⟨p', dx', vs, h1, h2, h3, h5, h6⟩ := e.rl.oi i C fs hi
  rw [hs] at h1; cases h1
  have h0 := e.new i _ p hi rfl hs
  have il := (List.getElem?_eq_some_iff.mp hi).1
  have at_i : ∀ {s : Sl}, (ρ.set i (.oi C fs'))[i]? = some s → s = .oi C fs' := fun h => by
    rw [List.getElem?_set_self il] at h; exact (Option.some.inj h).symm
  have ne : ∀ {j : Nat}, i ≠ j → (ρ.set i (.oi C fs'))[j]? = ρ[j]? := fun h => List.getElem?_set_ne h
  have np : ∀ {j : Nat} {s : Sl} {q : Addr}, i ≠ j → ρ[j]? = some s → s.own = true → σ[j]? = some (some (.ref q)) → q ≠ p := fun {j s q} hj h o hq z => by
    subst z
    exact hj (e.rl.inj i j _ s _ hi rfl h o hs hq)
  have sm : ∀ {A : Hp}, A p = none → Same A H → Same A (upd H p (.ins C.1 dx ws)) := fun n s b u q => by
    rw [upd_ne (ne_of_none q n)]; exact s b u q
  refine ⟨⟨by rw [List.length_set]; exact e.rl.len, sm h3 e.rl.fh, fun j d h => ?_, fun j fs h => ?_, fun j C' fs h => ?_, fun j kvs h => ?_, fun j k s s' w g1 o1 g2 o2 g3 g4 => ?_⟩, ⟨e.go.ff, sm h0 e.go.hh, sm h3 e.rl.fh, e.go.nn⟩, fun j s q h o hq => ?_⟩
  · by_cases hj : i = j
    · subst hj; cases at_i h
    · rw [ne hj] at h; exact e.rl.sh j d h
  · by_cases hj : i = j
    · subst hj; cases at_i h
    · rw [ne hj] at h
      obtain ⟨q, us, g1, g2, g3⟩ := e.rl.ow j fs h
      exact ⟨q, us, g1, by rw [upd_ne (np hj h rfl g1)]; exact g2, g3⟩
  · by_cases hj : i = j
    · subst hj
      cases at_i h
      exact ⟨p, dx, ws, hs, upd_same, h3, r, h6⟩
    · rw [ne hj] at h
      obtain ⟨q, dx, us, g1, g2, g3⟩ := e.rl.oi j C' fs h
      exact ⟨q, dx, us, g1, by rw [upd_ne (np hj h rfl g1)]; exact g2, g3⟩
  · by_cases hj : i = j
    · subst hj; cases at_i h
    · rw [ne hj] at h
      obtain ⟨q, us, g1, g2, g3⟩ := e.rl.od j kvs h
      exact ⟨q, us, g1, by rw [upd_ne (np hj h rfl g1)]; exact g2, g3⟩
  · have low : ∀ {j : Nat} {s : Sl}, (ρ.set i (.oi C fs'))[j]? = some s → s.own = true → ∃ s', ρ[j]? = some s' ∧ s'.own = true := fun {j s} h o => by
      by_cases hj : i = j
      · subst hj; exact ⟨_, hi, rfl⟩
      · rw [ne hj] at h; exact ⟨s, h, o⟩
    obtain ⟨s1, q1, q2⟩ := low g1 o1
    obtain ⟨s2, q3, q4⟩ := low g2 o2
    exact e.rl.inj j k s1 s2 w q1 q2 q3 q4 g3 g4
  · by_cases hj : i = j
    · subst hj; rw [hs] at hq; cases hq; exact h0
    · rw [ne hj] at h; exact e.new j s q h o hq
def putFD (f : Str) (d : D) : List (Str × D) → List (Str × D)
  | [] => [(f, d)]
  | (g, y) :: r => if g = f then (g, d) :: r else (g, y) :: putFD f d r
theorem RepF.put {K : PySem.W.Frag} {F : Hp} {f : Str} {d : D} {v : V} (r : Rep K F d v) : ∀ {fs : List (Str × D)} {ws : List (Str × V)}, RepF K F fs ws → RepF K F (putFD f d fs) (putF f v ws)
  | _, _, .nil => .cons r .nil
  | (g, y) :: _, (_, z) :: _, .cons q s => by
    unfold putFD putF
    by_cases h : g = f
    · rw [if_pos h, if_pos h]; exact .cons r s
    · rw [if_neg h, if_neg h]; exact .cons q (RepF.put r s)
def oiAt (ρ : Env') (i : Nat) (Q : Addr × Addr → List (Str × D) → Prop) : Prop := match ρ[i]? with
  | some (.oi C fs) => Q C fs
  | _ => False
theorem oiAt_inv {ρ : Env'} {i : Nat} {Q : Addr × Addr → List (Str × D) → Prop} (h : oiAt ρ i Q) : ∃ C fs, ρ[i]? = some (.oi C fs) ∧ Q C fs := by
  unfold oiAt at h
  split at h
  · exact ⟨_, _, by assumption, h⟩
  · exact h.elim
def dPutF (K : PySem.W.Frag) (i : Nat) (f : Str) (t : TD) : DS := fun d ρ => t ρ (fun y => oiAt ρ i fun C fs => FldOk K C.1 f ∧ fs.length < 1000 ∧ d.nx (ρ.set i (.oi C (putFD f y fs)))) (d.ex ρ)
theorem rs_fldS {K : PySem.W.Frag} (i : Nat) {x f : Str} {p pos' : Pos} (h : RE X W e t) (hK : X.K = K := by rfl) (hN : X.N[i]? = some x := by rfl) (hv : Vis X.env.scope x := by first | exact Or.inl rfl | exact Or.inr (Or.inl rfl) | exact Or.inr (Or.inr rfl))
    (hd : (x == ("__debug__" : Str)) = false := by decide) (hcd : (x == ("__classdict__" : Str)) = false := by decide) (hs : swapsWith e (some (.Attribute (.Name x p) f pos')) pos.line X.env = pure false := by rfl) :
    RS X W (.Assign [.Attribute (.Name x p) f pos'] e pos) (dPutF K i f t) := by
  subst hK
  obtain ⟨te, e1, e2⟩ := h.run
  refine ⟨_, ps_fld (pe_var hN hv hd hcd) e1 hs, fun F0 H0 ρ σ F H D d en c q => e2 ρ σ F H _ _ _ en.rl (c.ex ρ σ F H en) (fun y v F1 H1 g r q1 => ?_) q⟩
  obtain ⟨C, fs, ho, q2, q3, q4⟩ := oiAt_inv q1
  have en1 := en.step g
  obtain ⟨p, dx, vs, h1, h2, h3, h5, -⟩ := en1.rl.oi i C fs ho
  exact ⟨_, h1, p, C.1, dx, vs, rfl, h2, q2.1, q2.2, by rw [h5.length]; exact q3, c.nx _ _ F1 _ (en1.putOi ho h1 (h5.put r)) q4⟩
/-! ### C(..) -/
/-- what a class's __init__ promises: the arguments, what is wanted of the fields, of an exception -/
abbrev DI := List D → (List (Str × D) → Prop) → EQ → Prop
def spI (K : PySem.W.Frag) (n : Nat) (C : Addr) (G : DI) : Sp := fun vs H Q E => ∃ (ds : List D) (F H1 : Hp) (x dx : Addr) (us : List V) (Qd : List (Str × D) → Prop) (Ed : EQ), vs = .ref x :: us ∧ H = upd (upd H1 dx (.own x)) x (.ins C dx []) ∧ H1 x = none ∧ H1 dx = none ∧ dx ≠ x ∧
  Same F H1 ∧ Reps K F ds us ∧ ds.length + 1 = n ∧ G ds Qd Ed ∧ (∀ fs ws F' H' dx', Go F H1 F' H' → H' x = some (.ins C dx' ws) → F' x = none → RepF K F' fs ws → Qd fs → Q .non H') ∧
  (∀ y cls d F' H', Go F H1 F' H' → XRep K F' H' y cls d → Ed y → E cls d H')
theorem run_makeS {CX : CXT} {k : Nat} {C f : Addr} {fd : FuncData} {ps : List Str} {sp : Sp} {E : L2.St → XK} {ds : List Value} {dvs : List V} {pins : List (Addr × Obj)} {σ : L2.St} {H : Hp} {s : Shared} {Q : VK} {us : List Value} {vs : List V}
    (M : Mk X.K C f) (F : FnOk X.prog X.w X.K X.mg X.base CX k f fd ps sp) (hr : Room (k + 1) X.A) (hb : Binds X.K fd ps ds) (hd : Vals dvs ds) (hx : PassesAt CX X σ (E σ)) (I : Inv X pins σ H s) (r : Vals vs us)
    (h : ∀ x dx, H x = none → H dx = none → dx ≠ x → sp (.ref x :: (vs ++ dvs)) (upd (upd H dx (.own x)) x (.ins C dx [])) (fun v H2 => v = .non ∧ Q (.ref x) H2) (E σ)) :
    wpAny (model X.prog X.w) X.A (call (.ref C) us) (EP X pins σ Q) X.xe s := by
  have new1 : H s.heap.objs.size = none := I.hok.fresh (Nat.le_refl _)
  have new2 : H (s.heap.objs.size + 1) = none := I.hok.fresh (Nat.le_succ _)
  have hq := h (s.heap.objs.size + 1) s.heap.objs.size new2 new1 (Nat.ne_of_lt (Nat.lt_succ_self _))
  have I2 := Inv.made (C := C) I
  have r2 : Vals (V.ref (s.heap.objs.size + 1) :: (vs ++ dvs)) (Value.ref (s.heap.objs.size + 1) :: (us ++ ds)) := .cons rfl (r.append hd)
  have hl : (Value.ref (s.heap.objs.size + 1) :: us ++ ds).length = ps.length := by
    have q := r2.length
    rw [F.len _ _ _ _ hq] at q
    exact q.symm
  have go := F.run _ X.stack _ _ ⟨Value.ref (s.heap.objs.size + 1) :: us, []⟩ (Value.ref (s.heap.objs.size + 1) :: (us ++ ds)) _ _ (E σ) (hr.make C us []) (I2.env0.make C us []) (hb _ (Value.ref (s.heap.objs.size + 1) :: us) I2.kIn hl) r2 hq
  refine wpAny_call (make_map (f := f) I.kIn M.makes M.init (beq_iff_eq.mp M.fn) (codeAny_mono go fun r s' hq' => ?_))
  match r, hq' with
  | .error e, hq' => exact hx pins _ _ e s' I2 hq'
  | .ok (.ret u), hq' =>
    obtain ⟨v, H', I3, rv, ev, q3⟩ := I2.after hq'
    subst ev
    exact ⟨rv, V.ref (s.heap.objs.size + 1), H', I3, rfl, q3⟩
  | .ok .next, hq' => exact False.elim hq'
  | .ok .brk, hq' => exact False.elim hq'
  | .ok .cont, hq' => exact False.elim hq'
def tMakeS (C : Addr) (sp : Sp) (dvs : List V) (E : L2.St → XK) (u : TA) : TE := fun σ H Q => u σ H fun vs H1 => ∀ x dx, H1 x = none → H1 dx = none → dx ≠ x →
  sp (.ref x :: (vs ++ dvs)) (upd (upd H1 dx (.own x)) x (.ins C dx [])) (fun v H2 => v = .non ∧ Q (.ref x) H2) (E σ)
theorem pe_makeS {CX : CXT} {k : Nat} {C f : Addr} {fd : FuncData} {ps : List Str} {sp : Sp} {E : L2.St → XK} {ds : List Value} {dvs : List V} {x : Str} {p : Pos} {u : TA} (M : Mk X.K C f) (F : FnOk X.prog X.w X.K X.mg X.base CX k f fd ps sp) (hr : Room (k + 1) X.A) (hg : Gl X x) (hm : X.mg x = some (.ref C)) (hb : Binds X.K fd ps ds) (hd : Vals dvs ds) (hx : ∀ σ, PassesAt CX X σ (E σ))
    (ha : PA X (e :: es) u) (hdb : (x == ("__debug__" : Str)) = false) (he : starEach (e :: es) X.env = (false, eval e X.env) :: starEach es X.env) (hpl : (backTo pos (starEach es X.env)).any (·.1) = false) :
    PE X (.Call (.Name x p) (e :: es) [] pos) (tMakeS C sp dvs E u) := by
  refine ⟨fun pins s σ H Q I h => wpAny_Call_Name_kw (ld_glob I hg hm ?_ hdb)⟩
  refine PySem.W.callWith_K (h₀ := X.base) I.ok.mod.kin M.kp (thn (ha.run pos pins s σ H _ I h) fun us s1 hh => ?_) he hpl
  obtain ⟨vs, H1, I1, r, q⟩ := hh
  exact ⟨I1.kIn, run_makeS M F hr hb hd (hx σ) I1 r q⟩
/-- a class of the text: its __init__ and its promise -/
structure FI (P : Program) (w : World) (K : PySem.W.Frag) (mg : Str → Option Value) (base : Heap) (k : Nat) (C : Addr) (n : Nat) (dd : List D) (G : DI) : Prop where
  ok : ∃ (f : Addr) (fd : FuncData) (ps : List Str) (dvs : List V) (ds : List Value), FnOk P w K mg base (L2.CX P w) k f fd ps (spI K n C G) ∧ Binds K fd ps ds ∧ Vals dvs ds ∧ (∀ F, Reps K F dd dvs) ∧ Mk K C f
def dMake (n : Nat) (C : Addr) (dd : List D) (G : DI) (ts : TDs) : TD := fun ρ Q E => ts ρ (fun ds => (ds ++ dd).length + 1 = n ∧ G (ds ++ dd) (fun fs => Q (.ins C fs)) E) E
theorem re_make {k n : Nat} {C : Addr} {dd : List D} {G : DI} {x : Str} {p : Pos} (h : FI X.prog X.w X.K X.mg X.base k C n dd G) (hr : Room (k + 1) X.A) (hm : X.mg x = some (.ref C)) (tk : Takes X W) (ha : RA X W (e :: es) ts)
    (hg : Gl X x := by rfl) (hdb : (x == ("__debug__" : Str)) = false := by decide) (he : starEach (e :: es) X.env = (false, eval e X.env) :: starEach es X.env := by rfl) (hpl : (backTo pos (starEach es X.env)).any (·.1) = false := by rfl) :
    RE X W (.Call (.Name x p) (e :: es) [] pos) (dMake n C dd G ts) := by
  obtain ⟨f, fd, ps, dvs, dsv, F, bn, vl, hd, M⟩ := h.ok
  obtain ⟨ta, h1, h2⟩ := ha.run
  refine ⟨_, pe_makeS M F hr hg hm bn vl (fun σ => passAt tk σ) h1 hdb he hpl, fun ρ σ F H Qd E Q rl xp kk q => h2 ρ σ F H _ E _ rl xp (fun ds vs F1 H1 g1 r1 q1 => ?_) q⟩
  intro x dx nx ndx ne
  refine ⟨ds ++ dd, F1, H1, x, dx, vs ++ dvs, _, E, rfl, rfl, nx, ndx, ne, g1.fh, r1.append (hd F1), q1.1, q1.2, fun fs ws F' H' dx' g hx fx r qd => ⟨rfl, ?_⟩, fun y cls d F' H' g r ex => xp y cls d F' H' (g1.trans g) r ex⟩
  have g2 := g1.trans g
  have gz : Go F H (upd F' x (.ins C dx' ws)) H' := by
    refine ⟨g2.ff.trans (same_upd fx), g2.hh, fun b u q => ?_, fun b z1 z2 => ?_⟩
    · by_cases z : b = x
      · subst z; rw [upd_same] at q; cases q; exact hx
      · rw [upd_ne z] at q; exact g2.fh _ _ q
    · rw [upd_ne (fun z => by rw [z] at z2; exact z2 (g1.hh.free nx))]; exact g2.nn b z1 z2
  exact kk _ _ _ H' gz (.ins upd_same (r.mono (same_upd fx))) qd
end
/-! ### a def keeps its promise -/
def startD (N : List Str) (ds : List D) : Env' := ds.map .sh ++ List.replicate (N.length - ds.length) .no
theorem start_rl {K : PySem.W.Frag} {N : List Str} {ds : List D} {vs : List V} {F H : Hp} (e : Same F H) (r : Reps K F ds vs) : Rl K (startD N ds) (L2.start N vs) F H := by
  have hl := r.length
  have len : (startD N ds).length = (L2.start N vs).length := by
    unfold startD L2.start
    rw [List.length_append, List.length_append, List.length_map, List.length_map, List.length_replicate, List.length_replicate, hl]
  have inv : ∀ {i : Nat} {s : Sl}, (startD N ds)[i]? = some s → s ≠ .no → ∃ d, s = .sh d ∧ ds[i]? = some d ∧ i < ds.length := fun {i s} h ne => by
    unfold startD at h
    by_cases hi : i < ds.length
    · rw [List.getElem?_append_left (by rw [List.length_map]; exact hi), List.getElem?_map] at h
      cases q : ds[i]? with
      | none => rw [q] at h; cases h
      | some d => rw [q] at h; cases h; exact ⟨d, rfl, rfl, hi⟩
    · rw [List.getElem?_append_right (by rw [List.length_map]; omega), List.getElem?_replicate] at h
      split at h
      · cases h; exact absurd rfl ne
      · cases h
  refine ⟨len, e, fun i d h => ?_, fun i es h => ?_, fun i C fs h => ?_, fun i kvs h => ?_, fun i j s t v h1 o1 h2 o2 h3 h4 => ?_⟩
  · obtain ⟨d', q, h', hi⟩ := inv h (fun z => nomatch z)
    cases q
    obtain ⟨v, h1, h2⟩ := r.get h'
    refine ⟨v, ?_, h2⟩
    unfold L2.start
    rw [List.getElem?_append_left (by rw [List.length_map]; omega), List.getElem?_map, h1]
    rfl
  · obtain ⟨d', q, _⟩ := inv h (fun z => nomatch z); cases q
  · obtain ⟨d', q, _⟩ := inv h (fun z => nomatch z); cases q
  · obtain ⟨d', q, _⟩ := inv h (fun z => nomatch z); cases q
  · obtain ⟨d', q, _⟩ := inv h1 (fun z => by subst z; cases o1)
    subst q; cases o1
theorem start_own {N : List Str} {ds : List D} {i : Nat} {s : Sl} (h : (startD N ds)[i]? = some s) : ¬ s.own = true := by
  unfold startD at h
  by_cases hi : i < ds.length
  · rw [List.getElem?_append_left (by rw [List.length_map]; exact hi), List.getElem?_map] at h
    cases q : ds[i]? with
    | none => rw [q] at h; cases h
    | some d => rw [q] at h; cases h; exact Bool.false_ne_true
  · rw [List.getElem?_append_right (by rw [List.length_map]; omega), List.getElem?_replicate] at h
    split at h
    · cases h; exact Bool.false_ne_true
    · cases h
abbrev WF (E : XK) : WX := fun cls dx _ H => E cls dx H
end Dl

/-! The D-layer, part 10: a law's end. -/
namespace Dl
open PySem PySem.Spec
open PyProof.Rows L2
/-- what a law promises: of every script of so many ints, True -/
def gLaw (n : Nat) : DF := fun ds Q _ => ∃ ns : List Int, ds = [.frl (ns.map .int)] ∧ ns.length ≤ n ∧ (∀ z ∈ ns, Builtin.Int.intBits z ≤ 1048576) ∧ Q (.bl true)
theorem reps_ints {K : PySem.W.Frag} {F : Hp} : ∀ ns : List Int, Reps K F (ns.map D.int) (ns.map V.int)
  | [] => .nil
  | n :: ns => .cons (.int n) (reps_ints ns)
theorem law_end {l : PySem.W.OpenLaw} {n k : Nat} {q : Program} {loose : List Str} {XP : (Str → Option Value) → Heap → Prop} {YP : World → Heap → Prop} {d : DefRec} {K : Params → PySem.W.Frag} {x : Str}
    (hn : l.most = some n) (hn2 : n ≤ sizeLine) (hdf : d.params.defaults = []) (hr : Room k callerA) (hY : ∀ (w : World) (h : Heap), YP w h → (K w.params).In h)
    (F : ∀ (w : World) (mg : Str → Option Value) (fa : Addr) (h : Heap), (K w.params).In h → h.Ns mainGlobals mg → mg d.name = some (.ref fa) →
      ∃ fd : FuncData, (∀ (s : Shared) (u : Value), BindsTo s fd ⟨[u], []⟩ [(x, u)]) ∧
        ∀ base : Heap, (K w.params).In base → base.Ns mainGlobals mg → FnOk l.prog w (K w.params) mg base (L2.CX l.prog w) k fa fd [x] (spD (K w.params) 1 (gLaw n))) :
    PySem.W.WalkO q loose XP YP l.row.toRowW d [] (fun f vs => PySem.call f vs) := by
  refine L2.walk_ofB (K := K) (CX := fun w => L2.CX l.prog w) (sp := fun w => spD (K w.params) 1 (gLaw n)) hn hn2 hdf hr hY F (fun w H a ns h1 hb h2 h3 => ?_) fun w H s e s' z => ?_
  · refine ⟨[.frl (ns.map .int)], H, fun d => d = .bl true, fun _ => False, Same.refl _, .cons (.frl h3 (by rw [List.length_map]; omega) (reps_ints ns)) .nil, rfl, ⟨ns, rfl, h1, hb, rfl⟩, fun d v F' H' g r e => ?_, fun _ _ _ _ _ _ _ z => z.elim⟩
    subst e
    cases r
    rfl
  · obtain ⟨_, _, _, _, _, _, _, _, _, _, _, _, z⟩ := z
    exact z.elim
/-- a def as it stands behind the top, whatever its defaults are -/
theorem def_okA {P : Program} {w : World} {K : PySem.W.Frag} {mg : Str → Option Value} {base : Heap} {name qual : Str} {st : Stmt} {f : Addr} {N ps : List Str} {k n : Nat} {G : DF} {tb : DS} {oc dV kV doc pm cdv ct : Value} {od an : Option Addr} {osl : Array (Option Value)}
    (lk : K.lookup f = some ⟨oc, od, .func (PySem.W.fnOf name qual (defArgs st) (defBody st) (defScope st) dV kV doc pm an cdv ct), osl⟩) (hcd : PySem.W.codeIn K cdv qual = true) (S : FnScope N ps (defScope st)) (hn : ps.length = n)
    (body : ∀ (cdv : Value) (A : Around) (outer : List Env) (s : Shared) (H : Hp) (E : XK), Room k (A.deeper (envOfC qual (defScope st) s.heap.objs.size f cdv)) → RSs (cxOf (L2.CX P w) P w K mg base N qual (defScope st) f cdv A outer s H E) (WF E) (defBody st) tb)
    (read : ∀ ds Q E, ds.length = n → G ds Q E → tb ⟨fun _ => Q .non, Q, fun _ => False, fun _ => False, fun _ => E, fun _ => False, fun _ _ => False⟩ (startD N ds)) :
    FnOk P w K mg base (L2.CX P w) (k + 1) f (PySem.W.fnOf name qual (defArgs st) (defBody st) (defScope st) dV kV doc pm an cdv ct) ps (spD K n G) := by
  refine fn_of lk hcd S (fun vs H Q E h => ?_) fun A outer s H vs Q E hr h => ?_
  · obtain ⟨ds, F, Qd, Ed, _, r, hl, _⟩ := h
    rw [r.length, hl, hn]
  · obtain ⟨ts, h1, h2⟩ := (body cdv A outer s H E hr).run
    refine ⟨ts, h1, ?_⟩
    obtain ⟨ds, F1, Qd, Ed, sf, r, hl, g, k1, k2⟩ := h
    have rl := start_rl (N := N) sf r
    refine h2 F1 H (startD N ds) _ F1 H _ ⟨fun _ => Qd .non, Qd, fun _ => False, fun _ => False, fun _ => Ed, fun _ => False, fun _ _ => False⟩ ⟨rl, .refl sf, fun i s p h o hs => ?_⟩ ⟨fun ρ σ F' H' e q => k1 _ _ F' H' e.go .non q, fun x v F' H' g r q => k1 x v F' H' g r q, fun _ _ _ _ _ q => q.elim, fun _ _ _ _ _ q => q.elim, fun ρ σ F' H' e x cls dx F2 H2 g r q => k2 x cls dx F2 H2 (e.go.trans g) r q, fun _ _ _ _ _ _ q => q.elim, fun _ _ _ _ _ _ _ _ _ _ _ _ q => q.elim⟩ (read ds Qd Ed hl g)
    exact absurd o (start_own h)
/-! ### short names of readings (what gen.py prints) -/
def dLstN (ts : TDs) : TDs := fun ρ Q E => ts ρ (fun ds => few ds ∧ Q ds) E
def dRepN (ta tb : TD) : TDs := fun ρ Q E => ta ρ (fun x => tb ρ (fun y => kRep x y Q) E) E
def dListN (t : TD) : TDs := fun ρ Q E => t ρ (fun d => kListN d Q) E
def kMax2 : KC := k2c fun d d' Q => asI (fun i => asI (fun j => Q (.int (if j > i then j else i))) d') d
def k_abs : KC := k1c fun d Q => asI (fun i => Q (.int (if i < 0 then -i else i))) d
def kStrI : KC := k1c fun d Q => asI (fun i => i.natAbs.log2 < 1920 ∧ Q (.str (toString i))) d
def dOrE (t u : TD) : TD := fun ρ Q E => t ρ Q E ∨ u ρ Q E
end Dl

/-! The D-layer, part 11: more operators. -/
namespace Dl
open PySem PySem.Spec
open PyProof.Rows L2
section
variable {X : Cx} {W : WX} {e a b c : Expr} {t ta tb tc : TD} {pos : Pos}
def dNeg (t : TD) : TD := fun ρ Q E => t ρ (asI fun i => Q (.int (-i))) E
theorem re_neg (ha : RP X W a ta) : RE X W (.UnaryOp .USub a pos) (dNeg ta) := by
  obtain ⟨te, h1, h2⟩ := ha.run
  refine ⟨_, pe_un un_neg h1, fun ρ σ F H Qd E Q rl xp kk q => h2 ρ σ F H _ E _ rl xp (fun d v F1 H1 g pk q1 => ?_) q⟩
  obtain ⟨i, rfl, q2⟩ := asI_inv q1
  cases pk.int
  exact ⟨i, rfl, kk _ _ F1 H1 g (.int _) q2⟩
/-- is None; is of truths -/
def kIs : KD := fun x y Q => match y with
  | .non => (match x with
    | .non => Q (.bl true)
    | .ob _ => False
    | _ => Q (.bl false))
  | .bl b => (match x with
    | .bl a => Q (.bl (decide (a = b)))
    | _ => False)
  | _ => False
def kIsNot : KD := fun x y Q => match y with
  | .non => (match x with
    | .non => Q (.bl false)
    | .ob _ => False
    | _ => Q (.bl true))
  | .bl b => (match x with
    | .bl a => Q (.bl (!decide (a = b)))
    | _ => False)
  | _ => False
theorem pk_non {K : PySem.W.Frag} {F H : Hp} {d : D} {v : V} (ho : ∀ w, d ≠ .ob w) (p : Pk K F H d v) : decide (v = .non) = (match d with | .non => true | _ => false) := by
  rcases p with r | ⟨p, vs, ds, rfl, rfl, _⟩
  · cases r <;> first | rfl | exact absurd rfl (ho _)
  · rfl
theorem Pk.non {K : PySem.W.Frag} {F H : Hp} {v : V} (p : Pk K F H .non v) : v = .non := by
  rcases p with r | ⟨p, vs, ds, q, _⟩
  · cases r; rfl
  · cases q
theorem opd_is : OpD X (compareOp .Is) kIs := by
  refine ⟨_, op_isN.or op_is_bl, fun x y vx vy F H Qd Q e px py kk q => ?_⟩
  cases y <;> first | exact False.elim q | skip
  · refine .inl ⟨py.non, kk _ _ F H (.refl e) (.bl _) ?_⟩
    rw [pk_non (fun w z => by subst z; exact q) px]
    cases x <;> first | exact q | exact q.elim
  · cases x <;> first | exact False.elim q | skip
    exact .inr ⟨_, _, px.bl, py.bl, kk _ _ F H (.refl e) (.bl _) q⟩
theorem opd_isnot : OpD X (compareOp .IsNot) kIsNot := by
  refine ⟨_, op_notN.or op_isnot_bl, fun x y vx vy F H Qd Q e px py kk q => ?_⟩
  cases y <;> first | exact False.elim q | skip
  · refine .inl ⟨py.non, kk _ _ F H (.refl e) (.bl _) ?_⟩
    rw [pk_non (fun w z => by subst z; exact q) px]
    cases x <;> first | exact q | exact q.elim
  · cases x <;> first | exact False.elim q | skip
    exact .inr ⟨_, _, px.bl, py.bl, kk _ _ F H (.refl e) (.bl _) q⟩
/-- tuple * int, from 2 on -/
def kMulT : KD := fun x y Q => match x, y with
  | .tup a, .int k => a ≠ [] ∧ 2 ≤ k ∧ k ≤ 1000 ∧ a.length ≤ 1000 ∧ Q (.tup (List.replicate k.toNat a).flatten)
  | _, _ => False
theorem opd_mulT : OpD X (binaryOp .Mult) kMulT := by
  refine ⟨_, op_repT, fun x y vx vy F H Qd Q e px py kk q => ?_⟩
  cases x <;> cases y <;> first | exact False.elim q | skip
  rename_i ds k
  obtain ⟨q1, q2, q3, q4, q5⟩ := q
  obtain ⟨p, vs, rfl, h1, l1, r1⟩ := px.tup e
  cases py.int
  have rr := r1.rep k.toNat
  have hl : (List.replicate k.toNat vs).flatten.length ≤ sizeLine := by
    rw [flat_len, sizeLine_eq]
    have h3 : vs.length ≤ 1000 := by rw [r1.length]; exact q4
    have h4 : k.toNat ≤ 1000 := by omega
    have := Nat.mul_le_mul h3 h4
    omega
  refine ⟨p, k, vs, rfl, rfl, h1, fun z => q1 ?_, q2, q3, by rw [r1.length]; exact q4, fun l nl => ?_⟩
  · subst z; cases r1; rfl
  · obtain ⟨g, r⟩ := Go.tup e rr hl nl
    exact kk _ _ _ _ g r q5
def kMulA : KD := fun x y Q => match x, y with
  | .tup a, .int k => a ≠ [] ∧ 2 ≤ k ∧ k ≤ 1000 ∧ a.length ≤ 1000 ∧ Q (.tup (List.replicate k.toNat a).flatten)
  | x, y => kMul x y Q
theorem opd_mulA : OpD X (binaryOp .Mult) kMulA := (opd_mulT.or opd_mul).imp fun x y Q h => by
  cases x <;> cases y <;> first | exact .inl h | exact .inr h
/-- a < b < c -/
def dChain (k k' : KD) (ta tb tc : TD) : TD := fun ρ Q E => ta ρ (fun x => tb ρ (fun y => k x y (asB fun c => ifP c (tc ρ (fun z => k' y z Q) E) (Q (.bl false)))) E) E
theorem re_chain {op op' : CmpOp} {k k' : KD} (ho : OpD X (compareOp op) k) (ho' : OpD X (compareOp op') k') (ha : RP X W a ta) (hb : RP X W b tb) (hc : RP X W c tc) (hm : lastMarks [op, op'] [b, c] = false := by with_unfolding_all rfl) :
    RE X W (.Compare a [op, op'] [b, c] pos) (dChain k k' ta tb tc) := by
  obtain ⟨r, o1, o2⟩ := ho
  obtain ⟨r', o1', o2'⟩ := ho'
  obtain ⟨te1, a1, a2⟩ := ha.run
  obtain ⟨te2, b1, b2⟩ := hb.run
  obtain ⟨te3, c1, c2⟩ := hc.run
  refine ⟨_, pe_chain o1 o1' a1 b1 c1 hm, fun ρ σ F H Qd E Q rl xp kk q => a2 ρ σ F H _ E _ rl xp (fun x vx F1 H1 g1 px q1 => b2 ρ σ F1 H1 _ E _ (rl.go g1) (xp.go g1) (fun y vy F2 H2 g2 py q2 => ?_) q1) q⟩
  refine o2 x y vx vy F2 H2 _ _ g2.fh (px.go g2) py (fun d v F3 H3 g3 rd q3 => ?_) q2
  obtain ⟨cc, rfl, q4⟩ := asB_inv q3
  cases rd
  have g := (g1.trans g2).trans g3
  refine ⟨cc, rfl, ?_⟩
  cases cc with
  | false =>
    rw [ifP_f] at q4
    exact iteF (kk _ _ F3 H3 g (.bl false) q4)
  | true =>
    rw [ifP_t] at q4
    refine iteT (c2 ρ σ F3 H3 _ E _ (rl.go g) (xp.go g) (fun z vz F4 H4 g4 pz q5 => ?_) q4)
    exact o2' y z vy vz F4 H4 _ _ g4.fh ((py.go g3).go g4) pz (fun d v F5 H5 g5 r5 q6 => kk d v F5 H5 ((g.trans g4).trans g5) r5 q6) q5
theorem rt_chain' {op op' : CmpOp} {k k' : KD} (ho : OpD X (compareOp op) k) (ho' : OpD X (compareOp op') k') (ha : RP X W a ta) (hb : RP X W b tb) (hc : RP X W c tc) (hm : lastMarks [op, op'] [b, c] = false := by with_unfolding_all rfl) :
    RT X W (.Compare a [op, op'] [b, c] pos) (dTest (dChain k k' ta tb tc)) := by
  obtain ⟨r, o1, o2⟩ := ho
  obtain ⟨r', o1', o2'⟩ := ho'
  obtain ⟨te1, a1, a2⟩ := ha.run
  obtain ⟨te2, b1, b2⟩ := hb.run
  obtain ⟨te3, c1, c2⟩ := hc.run
  refine ⟨_, pt_chain o1 o1' a1 b1 c1 hm, fun ρ σ F H Qd E Q rl xp kk q => a2 ρ σ F H _ E _ rl xp (fun x vx F1 H1 g1 px q1 => b2 ρ σ F1 H1 _ E _ (rl.go g1) (xp.go g1) (fun y vy F2 H2 g2 py q2 => ?_) q1) q⟩
  refine o2 x y vx vy F2 H2 _ _ g2.fh (px.go g2) py (fun d v F3 H3 g3 rd q3 => ?_) q2
  obtain ⟨cc, rfl, q4⟩ := asB_inv q3
  cases rd
  have g := (g1.trans g2).trans g3
  refine ⟨cc, rfl, ?_⟩
  cases cc with
  | false =>
    rw [ifP_f] at q4
    exact iteF ⟨false, rfl, kk _ F3 H3 g q4⟩
  | true =>
    rw [ifP_t] at q4
    refine iteT (c2 ρ σ F3 H3 _ E _ (rl.go g) (xp.go g) (fun z vz F4 H4 g4 pz q5 => ?_) q4)
    refine o2' y z vy vz F4 H4 _ _ g4.fh ((py.go g3).go g4) pz (fun d v F5 H5 g5 r5 q6 => ?_) q5
    obtain ⟨c5, rfl, q7⟩ := asB_inv q6
    cases r5
    exact ⟨c5, rfl, kk _ F5 H5 ((g.trans g4).trans g5) q7⟩
/-- {} -/
def dDic0 : TD := fun _ Q _ => Q (.dic [])
theorem re_dic0 : RE X W (.Dict [] [] pos) dDic0 := by
  refine ⟨_, pe_dnewK, fun ρ σ F H Qd E Q rl xp kk q => ?_⟩
  intro d nd
  exact kk _ _ _ _ (Go.alloc (o := .dK []) rl.fh nd) (.dic upd_same .nil) q
end
end Dl

/-! The D-layer, part 12: readings made short. -/
namespace Dl
open PySem PySem.Spec
open PyProof.Rows L2
theorem compR_map {g : DG} {tt : TDb} {te : TD} {ρ : Env'} {Q : List D → Prop} (f : D → D) : ∀ (ds acc : List D),
    (∀ d ∈ ds, ∀ (K1 : D → Prop) (K0 : Prop), K1 (f d) → g d ρ fun ρ2 => tt ρ2 (fun b => ifP b (te ρ2 K1 (fun _ => False)) (K0)) fun _ => False) → Q (acc ++ ds.map f) → compR g tt te ρ Q ds acc
  | [], acc, _, q => by rw [List.map_nil, List.append_nil] at q; exact q
  | d :: ds, acc, h, q => by
    refine h d List.mem_cons_self _ _ (compR_map f ds _ (fun e he => h e (List.mem_cons_of_mem _ he)) ?_)
    rw [List.append_assoc]
    exact q
theorem compR_filter {g : DG} {tt : TDb} {te : TD} {ρ : Env'} {Q : List D → Prop} (p : D → Bool) (f : D → D) : ∀ (ds acc : List D),
    (∀ d ∈ ds, ∀ (K1 : D → Prop) (K0 : Prop), (p d = true → K1 (f d)) → (p d = false → K0) → g d ρ fun ρ2 => tt ρ2 (fun b => ifP b (te ρ2 K1 (fun _ => False)) (K0)) fun _ => False) → Q (acc ++ (ds.filter p).map f) → compR g tt te ρ Q ds acc
  | [], acc, _, q => by rw [List.filter_nil, List.map_nil, List.append_nil] at q; exact q
  | d :: ds, acc, h, q => by
    refine h d List.mem_cons_self _ _ (fun hp => compR_filter p f ds _ (fun e he => h e (List.mem_cons_of_mem _ he)) ?_) fun hp => compR_filter p f ds _ (fun e he => h e (List.mem_cons_of_mem _ he)) ?_
    · rw [List.filter_cons_of_pos hp, List.map_cons] at q
      rw [List.append_assoc]
      exact q
    · rw [List.filter_cons_of_neg (by rw [hp]; exact Bool.false_ne_true)] at q
      exact q
theorem irg_map : ∀ (n : Nat) (lo : Int), irg lo n = (List.range n).map fun k : Nat => D.int (lo + (k : Int))
  | 0, lo => rfl
  | n + 1, lo => by
    rw [List.range_succ_eq_map, List.map_cons, List.map_map]
    show D.int lo :: irg (lo + 1) n = _
    rw [irg_map n (lo + 1)]
    congr 1
    · rw [show lo + ((0 : Nat) : Int) = lo by omega]
    · apply List.map_congr_left
      intro k _
      show D.int (lo + 1 + k) = D.int (lo + ((k + 1 : Nat) : Int))
      rw [show lo + 1 + (k : Int) = lo + ((k + 1 : Nat) : Int) by omega]
theorem irg0 (n : Nat) : irg 0 n = (List.range n).map fun k : Nat => D.int (k : Int) := by
  rw [irg_map]
  apply List.map_congr_left
  intro k _
  show D.int (0 + (k : Int)) = D.int (k : Int)
  rw [Int.zero_add]
theorem few_of {ds : List D} (h : ds.length ≤ 16777216) : few ds := h
theorem atI_nn {α : Type} {xs : List α} {k : Nat} : atI xs (k : Int) = xs[k]? := by
  unfold atI ixN
  rw [if_pos (by omega)]
  by_cases h : ((k : Int) < (xs.length : Int))
  · rw [if_pos h]; rfl
  · rw [if_neg h]
    show none = _
    rw [List.getElem?_eq_none (by omega)]
theorem ixN_nn {n k : Nat} (h : k < n) : ixN n (k : Int) = some k := by
  unfold ixN
  rw [if_pos (by omega), if_pos (by omega)]
  rfl
theorem mulOk_r {i j : Int} (h1 : -(2 ^ 64) < j) (h2 : j < 2 ^ 64) : mulOk i j := .of_right (intBits_le_64 h1 h2)
theorem mulOk_l {i j : Int} (h1 : -(2 ^ 64) < i) (h2 : i < 2 ^ 64) : mulOk i j := .of_left (intBits_le_64 h1 h2)
theorem mulOk_le {i j : Int} {m n : Nat} (h1 : Builtin.Int.intBits i ≤ m) (h2 : Builtin.Int.intBits j ≤ n) (h : m + n ≤ 134217728) : mulOk i j := IntMulOk.of_le h1 h2 h
theorem divOk_small {j : Int} (h0 : j ≠ 0) (h : j.natAbs < 2 ^ 8000) : divOk j := ⟨h0, Nat.lt_of_lt_of_le (PySem.Flt.log2_lt_of (by decide) h) (by decide)⟩
end Dl
namespace Dl
open PySem PySem.Spec
open PyProof.Rows L2
/-! ### lists of ints by a function -/
def tabD (m : Nat) (F : Nat → Int) : List D := (List.range m).map fun j => D.int (F j)
theorem tab_len (m : Nat) (F : Nat → Int) : (tabD m F).length = m := by unfold tabD; rw [List.length_map, List.length_range]
theorem tab_get {m : Nat} {F : Nat → Int} {j : Nat} (h : j < m) : (tabD m F)[j]? = some (.int (F j)) := by
  unfold tabD
  rw [List.getElem?_map, List.getElem?_range h]
  rfl
theorem tab_set {m : Nat} {F : Nat → Int} {j : Nat} {x : Int} : (tabD m F).set j (.int x) = tabD m (fun i => if i = j then x else F i) := by
  refine List.ext_getElem? fun i => ?_
  by_cases hi : i < m
  · rw [tab_get hi]
    by_cases hj : j = i
    · subst hj
      rw [List.getElem?_set_self (by rw [tab_len]; exact hi), if_pos rfl]
    · rw [List.getElem?_set_ne hj, tab_get hi, if_neg (fun z => hj z.symm)]
  · rw [List.getElem?_eq_none (by rw [List.length_set, tab_len]; omega), List.getElem?_eq_none (by rw [tab_len]; omega)]
theorem tab_congr {m : Nat} {F G : Nat → Int} (h : ∀ j, j < m → F j = G j) : tabD m F = tabD m G := by
  unfold tabD
  exact List.map_congr_left fun j hj => by rw [h j (List.mem_range.mp hj)]
theorem tab_rep (m : Nat) (x : Int) : (List.replicate m [D.int x]).flatten = tabD m fun _ => x := by
  unfold tabD
  induction m with
  | zero => rfl
  | succ n ih => rw [List.range_succ, List.map_append, ← ih, List.replicate_succ', List.flatten_append]; rfl
theorem tab_list (ns : List Int) : ns.map D.int = tabD ns.length fun j => ns.getD j 0 := by
  refine List.ext_getElem? fun i => ?_
  by_cases hi : i < ns.length
  · rw [tab_get hi, List.getElem?_map, List.getElem?_eq_getElem hi, List.getD_eq_getElem?_getD, List.getElem?_eq_getElem hi]
    rfl
  · rw [List.getElem?_eq_none (by rw [List.length_map]; omega), List.getElem?_eq_none (by rw [tab_len]; omega)]
theorem ints_tab (m : Nat) (F : Nat → Int) : intsOf (tabD m F) = some ((List.range m).map F) := by
  unfold tabD
  rw [show ((List.range m).map fun j => D.int (F j)) = ((List.range m).map F).map D.int by rw [List.map_map]; rfl]
  exact intsOf_map _
theorem tab_snoc (m : Nat) (F : Nat → Int) (x : Int) : tabD m F ++ [.int x] = tabD (m + 1) (fun j => if j = m then x else F j) := by
  unfold tabD
  rw [List.range_succ, List.map_append]
  congr 1
  · exact List.map_congr_left fun j hj => by
      show D.int (F j) = D.int (if j = m then x else F j)
      rw [if_neg (Nat.ne_of_lt (List.mem_range.mp hj))]
  · simp
/-! ### plain data -/
mutual
def D.okk : Nat → D → Bool
  | _, .non => true
  | _, .bl _ => true
  | _, .int _ => true
  | _, .str x => PyData.strOk x
  | 0, _ => false
  | n + 1, .tup ds => D.okks n ds
  | n + 1, .lst ds => D.okks n ds
  | n + 1, .frl ds => D.okks n ds
  | _, _ => false
def D.okks : Nat → List D → Bool
  | _, [] => true
  | n, d :: ds => D.okk n d && D.okks n ds
end
theorem okks_all {n : Nat} : ∀ {ds : List D}, (∀ d ∈ ds, d.okk n = true) → D.okks n ds = true
  | [], _ => by unfold D.okks; rfl
  | d :: ds, h => by
    unfold D.okks
    rw [h d List.mem_cons_self, okks_all fun e he => h e (List.mem_cons_of_mem _ he)]
    rfl
mutual
theorem okk_plain : ∀ (n : Nat) (d : D), d.okk n = true → d.flat = true ∧ d.py.canLay0 = true ∧ d.py.depth ≤ n
  | n, .non, _ => by unfold D.flat D.py PyData.canLay0 PyData.depth; exact ⟨rfl, rfl, Nat.zero_le _⟩
  | n, .bl _, _ => by unfold D.flat D.py PyData.canLay0 PyData.depth; exact ⟨rfl, rfl, Nat.zero_le _⟩
  | n, .int _, _ => by unfold D.flat D.py PyData.canLay0 PyData.depth; exact ⟨rfl, rfl, Nat.zero_le _⟩
  | n, .str x, h => by
    unfold D.flat D.py PyData.canLay0 PyData.depth
    have h' : PyData.strOk x = true := by cases n <;> (unfold D.okk at h; exact h)
    exact ⟨rfl, h', Nat.zero_le _⟩
  | 0, .tup ds, h => by unfold D.okk at h; cases h
  | 0, .lst ds, h => by unfold D.okk at h; cases h
  | 0, .frl ds, h => by unfold D.okk at h; cases h
  | n + 1, .tup ds, h => by
    unfold D.okk at h
    obtain ⟨h1, h2, h3⟩ := okks_plain n ds h
    unfold D.flat D.py PyData.canLay0 PyData.depth
    exact ⟨h1, h2, Nat.succ_le_succ h3⟩
  | n + 1, .lst ds, h => by
    unfold D.okk at h
    obtain ⟨h1, h2, h3⟩ := okks_plain n ds h
    unfold D.flat D.py PyData.canLay0 PyData.depth
    exact ⟨h1, h2, Nat.succ_le_succ h3⟩
  | n + 1, .frl ds, h => by
    unfold D.okk at h
    obtain ⟨h1, h2, h3⟩ := okks_plain n ds h
    unfold D.flat D.py PyData.canLay0 PyData.depth
    exact ⟨h1, h2, Nat.succ_le_succ h3⟩
  | n, .ty _, h => by cases n <;> (unfold D.okk at h; cases h)
  | n, .cls _, h => by cases n <;> (unfold D.okk at h; cases h)
  | n, .ins _ _, h => by cases n <;> (unfold D.okk at h; cases h)
  | n, .dic _, h => by cases n <;> (unfold D.okk at h; cases h)
  | n, .ob _, h => by cases n <;> (unfold D.okk at h; cases h)
theorem okks_plain : ∀ (n : Nat) (ds : List D), D.okks n ds = true → D.flats ds = true ∧ PyData.canLayAll0 (D.pys ds) = true ∧ PyData.depthAll (D.pys ds) ≤ n
  | n, [], _ => by unfold D.flats D.pys PyData.canLayAll0 PyData.depthAll; exact ⟨rfl, rfl, Nat.zero_le _⟩
  | n, d :: ds, h => by
    unfold D.okks at h
    rw [Bool.and_eq_true] at h
    obtain ⟨h1, h2, h3⟩ := okk_plain n d h.1
    obtain ⟨k1, k2, k3⟩ := okks_plain n ds h.2
    unfold D.flats D.pys PyData.canLayAll0 PyData.depthAll
    rw [h1, h2, k1, k2]
    exact ⟨rfl, rfl, Nat.max_le.mpr ⟨h3, k3⟩⟩
end
theorem plain_of {d : D} (h : d.okk 64 = true) : plain d := by
  obtain ⟨h1, h2, h3⟩ := okk_plain 64 d h
  exact ⟨h1, by unfold SeqAt.shaped; rw [h2, decide_eq_true h3]; rfl⟩
theorem okk_tab (n m : Nat) (F : Nat → Int) : D.okks n (tabD m F) = true := okks_all fun d hd => by
  obtain ⟨j, _, rfl⟩ := List.mem_map.mp hd
  cases n <;> rfl
theorem okk_ints (n : Nat) (ns : List Int) : D.okks n (ns.map D.int) = true := okks_all fun d hd => by
  obtain ⟨j, _, rfl⟩ := List.mem_map.mp hd
  cases n <;> rfl
mutual
theorem eqv_self : ∀ (n : Nat) (d : D), d.okk n = true → PyData.eqv d.py d.py = true
  | n, .non, _ => by unfold D.py PyData.eqv; rfl
  | n, .bl _, _ => by unfold D.py PyData.eqv; exact beq_self_eq_true _
  | n, .int _, _ => by unfold D.py PyData.eqv; exact beq_self_eq_true _
  | n, .str x, h => by unfold D.py PyData.eqv; exact beq_self_eq_true _
  | 0, .tup ds, h => by unfold D.okk at h; cases h
  | 0, .lst ds, h => by unfold D.okk at h; cases h
  | 0, .frl ds, h => by unfold D.okk at h; cases h
  | n + 1, .tup ds, h => by unfold D.okk at h; unfold D.py PyData.eqv; exact eqvs_self n ds h
  | n + 1, .lst ds, h => by unfold D.okk at h; unfold D.py PyData.eqv; exact eqvs_self n ds h
  | n + 1, .frl ds, h => by unfold D.okk at h; unfold D.py PyData.eqv; exact eqvs_self n ds h
  | n, .ty _, h => by cases n <;> (unfold D.okk at h; cases h)
  | n, .cls _, h => by cases n <;> (unfold D.okk at h; cases h)
  | n, .ins _ _, h => by cases n <;> (unfold D.okk at h; cases h)
  | n, .dic _, h => by cases n <;> (unfold D.okk at h; cases h)
  | n, .ob _, h => by cases n <;> (unfold D.okk at h; cases h)
theorem eqvs_self : ∀ (n : Nat) (ds : List D), D.okks n ds = true → PyData.eqvAll (D.pys ds) (D.pys ds) = true
  | n, [], _ => by unfold D.pys PyData.eqvAll; rfl
  | n, d :: ds, h => by
    unfold D.okks at h
    rw [Bool.and_eq_true] at h
    unfold D.pys PyData.eqvAll
    rw [eqv_self n d h.1, eqvs_self n ds h.2]
    rfl
end
/-! ### isinstance of ints and the like -/
theorem isB_ii (i : Int) : isB (.int i) "int" = some true := by show kitB "int" "int" = _; decide +kernel
theorem isB_ib (i : Int) : isB (.int i) "bool" = some false := by show kitB "int" "bool" = _; decide +kernel
theorem isB_bi (i : Bool) : isB (.bl i) "int" = some true := by show kitB "bool" "int" = _; decide +kernel
theorem isB_bb (i : Bool) : isB (.bl i) "bool" = some true := by show kitB "bool" "bool" = _; decide +kernel
theorem isB_ni : isB .non "int" = some false := by show kitB "NoneType" "int" = _; decide +kernel
theorem isB_nb : isB .non "bool" = some false := by show kitB "NoneType" "bool" = _; decide +kernel
theorem isB_nt : isB .non "tuple" = some false := by show kitB "NoneType" "tuple" = _; decide +kernel
theorem isB_nl : isB .non "list" = some false := by show kitB "NoneType" "list" = _; decide +kernel
theorem isB_si (x : Str) : isB (.str x) "int" = some false := by show kitB "str" "int" = _; decide +kernel
theorem isB_sb (x : Str) : isB (.str x) "bool" = some false := by show kitB "str" "bool" = _; decide +kernel
theorem isB_st (x : Str) : isB (.str x) "tuple" = some false := by show kitB "str" "tuple" = _; decide +kernel
theorem isB_sl (x : Str) : isB (.str x) "list" = some false := by show kitB "str" "list" = _; decide +kernel
theorem isB_ss (x : Str) : isB (.str x) "str" = some true := by show kitB "str" "str" = _; decide +kernel
theorem isB_it (i : Int) : isB (.int i) "tuple" = some false := by show kitB "int" "tuple" = _; decide +kernel
theorem isB_il (i : Int) : isB (.int i) "list" = some false := by show kitB "int" "list" = _; decide +kernel
theorem isB_is (i : Int) : isB (.int i) "str" = some false := by show kitB "int" "str" = _; decide +kernel
theorem isB_bt (i : Bool) : isB (.bl i) "tuple" = some false := by show kitB "bool" "tuple" = _; decide +kernel
theorem isB_bl (i : Bool) : isB (.bl i) "list" = some false := by show kitB "bool" "list" = _; decide +kernel
theorem isB_ti (ds : List D) : isB (.tup ds) "int" = some false := by show kitB "tuple" "int" = _; decide +kernel
theorem isB_tb (ds : List D) : isB (.tup ds) "bool" = some false := by show kitB "tuple" "bool" = _; decide +kernel
theorem isB_tt (ds : List D) : isB (.tup ds) "tuple" = some true := by show kitB "tuple" "tuple" = _; decide +kernel
theorem isB_tl (ds : List D) : isB (.tup ds) "list" = some false := by show kitB "tuple" "list" = _; decide +kernel
theorem isB_li (ds : List D) : isB (.lst ds) "int" = some false := by show kitB "list" "int" = _; decide +kernel
theorem isB_lb (ds : List D) : isB (.lst ds) "bool" = some false := by show kitB "list" "bool" = _; decide +kernel
theorem isB_lt (ds : List D) : isB (.lst ds) "tuple" = some false := by show kitB "list" "tuple" = _; decide +kernel
theorem isB_ll (ds : List D) : isB (.lst ds) "list" = some true := by show kitB "list" "list" = _; decide +kernel
theorem isB_di (ds : List (Key × D)) : isB (.dic ds) "int" = some false := by show kitB "dict" "int" = _; decide +kernel
theorem isB_db (ds : List (Key × D)) : isB (.dic ds) "bool" = some false := by show kitB "dict" "bool" = _; decide +kernel
theorem isB_dt (ds : List (Key × D)) : isB (.dic ds) "tuple" = some false := by show kitB "dict" "tuple" = _; decide +kernel
theorem isB_dl (ds : List (Key × D)) : isB (.dic ds) "list" = some false := by show kitB "dict" "list" = _; decide +kernel
end Dl
namespace Dl
/-! ### what dsimp may use of lists -/
section
variable {α β : Type}
theorem q_map_cons (f : α → β) (a : α) (l : List α) : (a :: l).map f = f a :: l.map f := rfl
theorem q_map_nil (f : α → β) : ([] : List α).map f = [] := rfl
theorem q_app_cons (a : α) (l m : List α) : (a :: l) ++ m = a :: (l ++ m) := rfl
theorem q_app_nil (m : List α) : [] ++ m = m := rfl
theorem q_len_cons (a : α) (l : List α) : (a :: l).length = l.length + 1 := rfl
theorem q_len_nil : ([] : List α).length = 0 := rfl
theorem q_rep_0 (a : α) : List.replicate 0 a = [] := rfl
theorem q_rep_s (n : Nat) (a : α) : List.replicate (n + 1) a = a :: List.replicate n a := rfl
theorem q_get_0 (a : α) (l : List α) : (a :: l)[0]? = some a := rfl
theorem q_get_s (a : α) (l : List α) (n : Nat) : (a :: l)[n + 1]? = l[n]? := rfl
theorem q_set_0 (a b : α) (l : List α) : (a :: l).set 0 b = b :: l := rfl
theorem q_set_s (a b : α) (l : List α) (n : Nat) : (a :: l).set (n + 1) b = a :: l.set n b := rfl
theorem q_if (A B : Prop) : (if true = true then A else B) = A := by rfl
theorem q_if' (A B : Prop) : (if false = true then A else B) = B := by rfl
end
end Dl
namespace Dl
open PySem PySem.Spec
open PyProof.Rows L2
/-- a comprehension of ints, each of which is only known to be P -/
theorem compR_ints {g : DG} {tt : TDb} {te : TD} {ρ : Env'} {Q : List D → Prop} (P : Int → Prop) : ∀ (ds acc : List D),
    (∀ d ∈ ds, ∀ (K1 : D → Prop) (K0 : Prop), (∀ y, P y → K1 (.int y)) → g d ρ fun ρ2 => tt ρ2 (fun b => ifP b (te ρ2 K1 (fun _ => False)) (K0)) fun _ => False) →
    (∀ ys : List Int, ys.length = ds.length → (∀ y ∈ ys, P y) → Q (acc ++ ys.map .int)) → compR g tt te ρ Q ds acc
  | [], acc, _, q => by have := q [] rfl (fun y hy => by cases hy); rw [List.map_nil, List.append_nil] at this; exact this
  | d :: ds, acc, h, q => by
    refine h d List.mem_cons_self _ _ fun y hy => compR_ints P ds _ (fun e he => h e (List.mem_cons_of_mem _ he)) fun ys hl hp => ?_
    rw [List.append_assoc]
    exact q (y :: ys) (by rw [List.length_cons, List.length_cons, hl]) fun z hz => by
      rcases List.mem_cons.mp hz with rfl | hz
      · exact hy
      · exact hp z hz
theorem cut_map {α β : Type} (f : α → β) (xs : List α) (lo hi : Option Int) : cut (xs.map f) lo hi = (cut xs lo hi).map f := by
  unfold cut
  rw [List.length_map, List.map_take, List.map_drop]
theorem getD_all {P : Int → Prop} (h0 : P 0) {ys : List Int} (h : ∀ y ∈ ys, P y) (j : Nat) : P (ys.getD j 0) := by
  rw [List.getD_eq_getElem?_getD]
  cases e : ys[j]? with
  | none => exact h0
  | some y => exact h y (List.mem_of_getElem? e)
section
variable {g : DG} {tt : TDb} {te : TD} {ρ : Env'} {Q : List D → Prop}
theorem compL_map (f : D → D) (ds acc : List D)
    (h : ∀ d ∈ ds, ∀ (K1 : D → Prop) (K0 : Prop), K1 (f d) → g d ρ fun ρ2 => tt ρ2 (fun b => ifP b (te ρ2 K1 (fun _ => False)) (K0)) fun _ => False) (q : Q (acc ++ ds.map f)) : compL g tt te ρ Q ds acc := ⟨compR_map f ds acc h q⟩
theorem compL_filter (p : D → Bool) (f : D → D) (ds acc : List D)
    (h : ∀ d ∈ ds, ∀ (K1 : D → Prop) (K0 : Prop), (p d = true → K1 (f d)) → (p d = false → K0) → g d ρ fun ρ2 => tt ρ2 (fun b => ifP b (te ρ2 K1 (fun _ => False)) (K0)) fun _ => False) (q : Q (acc ++ (ds.filter p).map f)) : compL g tt te ρ Q ds acc := ⟨compR_filter p f ds acc h q⟩
theorem compL_ints (P : Int → Prop) (ds acc : List D)
    (h : ∀ d ∈ ds, ∀ (K1 : D → Prop) (K0 : Prop), (∀ y, P y → K1 (.int y)) → g d ρ fun ρ2 => tt ρ2 (fun b => ifP b (te ρ2 K1 (fun _ => False)) (K0)) fun _ => False)
    (q : ∀ ys : List Int, ys.length = ds.length → (∀ y ∈ ys, P y) → Q (acc ++ ys.map .int)) : compL g tt te ρ Q ds acc := ⟨compR_ints P ds acc h q⟩
end
/-- a comprehension over a range -/
theorem compL_rng {g : DG} {tt : TDb} {te : TD} {ρ : Env'} {Q : List D → Prop} (n : Nat) (f : Nat → D)
    (h : ∀ k : Nat, k < n → ∀ (K1 : D → Prop) (K0 : Prop), K1 (f k) → g (.int (k : Int)) ρ fun ρ2 => tt ρ2 (fun b => ifP b (te ρ2 K1 (fun _ => False)) (K0)) fun _ => False)
    (q : Q ((List.range n).map f)) : compL g tt te ρ Q (irg 0 n) [] := by
  rw [irg0]
  refine compL_map (fun d => match d with | .int k => f k.toNat | d => d) _ _ (fun d hd K1 K0 hK => ?_) ?_
  · obtain ⟨k, hk, rfl⟩ := List.mem_map.mp hd
    exact h k (List.mem_range.mp hk) K1 K0 hK
  · rw [List.nil_append, List.map_map]
    exact q
end Dl

/-! The D-layer, part 13: loops by one turn. -/
namespace Dl
open PySem PySem.Spec
open PyProof.Rows L2
section
variable {g : DG} {tb : DS} {d : DE} {x : D} {xs : List D} {ρ : Env'}
theorem lp_nil (h : d.nx ρ) : loopD g tb d [] ρ := ⟨h⟩
theorem lp_cons (h : g x ρ fun ρ2 => tb { d with nx := loopD g tb d xs, ct := loopD g tb d xs, bk := d.nx } ρ2) : loopD g tb d (x :: xs) ρ := by
  rw [loopD_eq] at h
  exact ⟨h⟩
theorem lp_r0 {i : Int} (h : d.nx ρ) : loopD g tb d (irg i 0) ρ := ⟨h⟩
theorem lp_rs {i : Int} {n : Nat} (h : g (.int i) ρ fun ρ2 => tb { d with nx := loopD g tb d (irg (i + 1) n), ct := loopD g tb d (irg (i + 1) n), bk := d.nx } ρ2) : loopD g tb d (irg i (n + 1)) ρ := by
  rw [loopD_eq] at h
  exact ⟨h⟩
end
end Dl

/-! The D-layer, part 14: numbers, fractions. -/
namespace Dl
open PySem PySem.Spec
open PyProof.Rows L2
local macro_rules | `(tactic| walk_at "rd") => `(tactic| ((conv => whnf); (try dsimp only [startD, wipeD, q_map_cons, q_map_nil, q_app_cons, q_app_nil, q_len_cons, q_len_nil, q_rep_0, q_rep_s, q_get_0, q_get_s, q_set_0, q_set_s, ifP_t, ifP_f, Nat.reduceAdd, Nat.reduceSub, Int.reduceToNat, Int.reducePow, Int.reduceAdd, Int.reduceMul])))
local macro_rules | `(tactic| walk_at "sd") => `(tactic| first | with_reducible assumption | omega | with_reducible rfl | decide | exact few_of (by decide) | exact divOk_small (by decide) (by decide +kernel) | exact mulOk_r (by omega) (by omega) | exact mulOk_l (by omega) (by omega) | exact few_of (by simp only [List.length_append, List.length_map, List.length_cons, List.length_nil, tab_len, List.length_replicate]; omega))
local macro_rules | `(tactic| walk_at "go") => `(tactic| ((try walk_at "rd"); (repeat (refine And.intro (by walk_at "sd") ?_; try walk_at "rd"))))
def bnd (k : Nat) (z : Int) : Prop := z.natAbs < 2 ^ k
def shr (t b : Int) : Int := if b < 0 then -(Int.gcd t b : Int) else (Int.gcd t b : Int)
def fr (t b : Int) : D := .tup [.int (t.fdiv (shr t b)), .int (b.fdiv (shr t b))]
abbrev pr (t b : Int) : D := .tup [.int t, .int b]
def isWh : D → Option Bool
  | .int _ => some true
  | .bl _ => some false
  | .non => some false
  | .str _ => some false
  | .tup _ => some false
  | .lst _ => some false
  | .dic _ => some false
  | _ => none
abbrev dE (Q E : EQ) : DE := ⟨fun _ => Q .non, Q, fun _ => False, fun _ => False, fun _ => E, fun _ => False, fun _ _ => False⟩
theorem bits_of {k : Nat} {z : Int} (h : bnd k z) : Builtin.Int.intBits z ≤ k := intBits_le_iff.mpr h
theorem bnd_mono {j k : Nat} {z : Int} (h : bnd j z) (hk : j ≤ k) : bnd k z := Nat.lt_of_lt_of_le h (Nat.pow_le_pow_right (by decide) hk)
theorem bnd_mul {j k : Nat} {x y : Int} (h1 : bnd j x) (h2 : bnd k y) : bnd (j + k) (x * y) := intBits_le_iff.mp (Nat.le_trans (intBits_mul_le (bits_of h1) (bits_of h2)) (Nat.le_refl _))
theorem mul_of {j k : Nat} {x y : Int} (h1 : bnd j x) (h2 : bnd k y) (h : j + k ≤ 134217728) : mulOk x y := mulOk_le (bits_of h1) (bits_of h2) h
theorem div_of {z : Int} (h0 : z ≠ 0) (h : bnd 8000 z) : divOk z := divOk_small h0 h
theorem gcd_step (a b : Int) : Int.gcd b (a.fmod b) = Int.gcd a b := by
  have h : a.fmod b = a - b * a.fdiv b := Int.fmod_def a b
  rw [h, Int.gcd_comm a b, show a - b * a.fdiv b = a + b * (-(a.fdiv b)) by rw [Int.mul_neg]; rfl]
  exact Int.gcd_add_mul_left_right ..
theorem fmod_natAbs {a b : Int} (h : b ≠ 0) : (a.fmod b).natAbs < b.natAbs := by
  rcases Int.lt_or_gt_of_ne h with h | h
  · have h0 : 0 < -b := by omega
    have h1 := Int.fmod_nonneg_of_pos (-a) h0
    have h2 := Int.fmod_lt_of_pos (-a) h0
    rw [Int.neg_fmod_neg] at h1 h2
    omega
  · have h1 := Int.fmod_nonneg_of_pos a h
    have h2 := Int.fmod_lt_of_pos a h
    omega
theorem gcd_loop {d : DE} {a b : Int} (h : ∀ a' b' : Int, b' = 0 → (a'.natAbs : Int) = Int.gcd a b → d.nx [.sh (.int a'), .sh (.int b')]) :
    dWhile (dTest (dOp kNe (dVarP 1) (dC (.int 0)))) (dPar 0 1 (dCons (dVar 1) (dCons (dOp kMod (dVarP 0) (dVarP 1)) dNil))) d [.sh (.int a), .sh (.int b)] := by
  refine ⟨fun m ρ => ∃ a' b' : Int, ρ = [.sh (.int a'), .sh (.int b')] ∧ Int.gcd a' b' = Int.gcd a b ∧ m = b'.natAbs, ⟨_, a, b, rfl, rfl, rfl⟩, ?_⟩
  rintro m ρ ⟨a', b', rfl, hg, rfl⟩
  walk_at "rd"
  by_cases hb : b' = 0
  · rw [decide_eq_true hb]
    refine h a' b' hb ?_
    rw [← hg, hb, Int.gcd_zero_right]
  · rw [decide_eq_false hb]
    walk_at "rd"
    refine ⟨hb, ?_⟩
    walk_at "rd"
    exact ⟨_, fmod_natAbs hb, b', a'.fmod b', rfl, (gcd_step a' b').trans hg, rfl⟩
theorem abs_nat (a : Int) : (if a < 0 then -a else a) = (a.natAbs : Int) := by split <;> omega
theorem shr_ne {t b : Int} (h : b ≠ 0) : shr t b ≠ 0 := by
  have : Int.gcd t b ≠ 0 := fun e => h (Int.gcd_eq_zero_iff.mp e).2
  unfold shr
  split <;> omega
theorem gcd_bnd {k : Nat} {t b : Int} (h : b ≠ 0) (hb : bnd k b) : bnd k (Int.gcd t b : Int) := by
  have : Int.gcd t b ≤ b.natAbs := Nat.le_of_dvd (by omega) (Int.natAbs_dvd_natAbs.mpr (Int.gcd_dvd_right ..))
  unfold bnd at hb ⊢
  omega
theorem shr_bnd {k : Nat} {t b : Int} (h : b ≠ 0) (hb : bnd k b) : bnd k (shr t b) := by
  have := gcd_bnd (t := t) h hb
  unfold bnd at this ⊢
  unfold shr
  split <;> omega
theorem two (x : Int) : x.fmod 2 = 0 ∨ x.fmod 2 = 1 := by
  have h1 := Int.fmod_nonneg_of_pos x (show (0 : Int) < 2 by decide)
  have h2 := Int.fmod_lt_of_pos x (show (0 : Int) < 2 by decide)
  omega
theorem fdiv_le {z s : Int} (hs : 1 ≤ s) : (z.fdiv s).natAbs ≤ z.natAbs := by
  have h := Int.mul_fdiv_add_fmod z s
  have h1 := Int.fmod_nonneg_of_pos z (show 0 < s by omega)
  have h2 := Int.fmod_lt_of_pos z (show 0 < s by omega)
  generalize z.fdiv s = u at h ⊢
  generalize z.fmod s = r at h h1 h2
  by_cases hu : 0 ≤ u
  · have : u ≤ s * u := by
      have := Int.mul_le_mul_of_nonneg_right hs hu
      omega
    omega
  · have : s * u ≤ u := by
      have := Int.mul_le_mul_of_nonpos_right hs (show u ≤ 0 by omega)
      omega
    have h3 : s * (u + 1) = s * u + s := by rw [Int.mul_add, Int.mul_one]
    have : s * (u + 1) ≤ u + 1 := by
      have := Int.mul_le_mul_of_nonpos_right hs (show u + 1 ≤ 0 by omega)
      omega
    omega
theorem fr_pos {t b : Int} (hb : 0 < b) : 0 < b.fdiv (shr t b) := by
  have h1 : (Int.gcd t b : Int) ∣ b := Int.gcd_dvd_right ..
  have h2 : Int.gcd t b ≠ 0 := fun e => by have := (Int.gcd_eq_zero_iff.mp e).2; omega
  obtain ⟨c, hc⟩ := h1
  unfold shr
  rw [if_neg (by omega)]
  have : b.fdiv (Int.gcd t b : Int) = c := by
    conv => lhs; arg 1; rw [hc]
    rw [Int.mul_comm]
    exact Int.mul_fdiv_cancel _ (by omega)
  rw [this]
  apply Int.pos_of_mul_pos_right (a := (Int.gcd t b : Int)) 
  · rw [← hc]; exact hb
  · omega
theorem shr_ge {t b : Int} (hb : 0 < b) : 1 ≤ shr t b := by
  have h2 : Int.gcd t b ≠ 0 := fun e => by have := (Int.gcd_eq_zero_iff.mp e).2; omega
  unfold shr
  rw [if_neg (by omega)]
  omega
theorem bnd_le {k : Nat} {x y : Int} (h : x.natAbs ≤ y.natAbs) (hy : bnd k y) : bnd k x := Nat.lt_of_le_of_lt h hy
theorem pick (l : List D) (n x : Int) (hn : n = (l.length : Int)) (h0 : 0 < n) : ∃ y, y ∈ l ∧ atI l (x.fmod n) = some y := by
  have h1 := Int.fmod_nonneg_of_pos x h0
  have h2 := Int.fmod_lt_of_pos x h0
  obtain ⟨k, hk⟩ := Int.eq_ofNat_of_zero_le h1
  rw [hk] at h2 ⊢
  have hl : k < l.length := by omega
  exact ⟨l[k], List.getElem_mem hl, by rw [atI_nn, List.getElem?_eq_getElem hl]⟩
theorem pick2 (p q x : Int) : ∃ y, atI [D.int p, D.int q] (x.fmod 2) = some (.int y) ∧ (y = p ∨ y = q) := by
  obtain ⟨y, hm, h⟩ := pick [D.int p, D.int q] 2 x rfl (by decide)
  rcases List.mem_cons.mp hm with rfl | hm
  · exact ⟨p, h, .inl rfl⟩
  · rw [List.mem_singleton.mp hm] at h
    exact ⟨q, h, .inr rfl⟩
theorem bnd_of {k : Nat} {z : Int} (h1 : -(2 ^ k) < z) (h2 : z < 2 ^ k) : bnd k z := by
  unfold bnd
  have e : ((2 ^ k : Nat) : Int) = 2 ^ k := by simp
  omega
theorem fr_bnds {k : Nat} {t b : Int} (hb : 0 < b) (bt : bnd k t) (bb : bnd k b) : 0 < b.fdiv (shr t b) ∧ bnd k (t.fdiv (shr t b)) ∧ bnd k (b.fdiv (shr t b)) :=
  ⟨fr_pos hb, bnd_le (fdiv_le (shr_ge hb)) bt, bnd_le (fdiv_le (shr_ge hb)) bb⟩
end Dl

/-! The D-layer, part 15: the defs of fractions, read once. -/
namespace Dl
open PySem PySem.Spec
open PyProof.Rows L2
local macro_rules | `(tactic| walk_at "rd") => `(tactic| ((conv => whnf); (try dsimp only [startD, wipeD, q_map_cons, q_map_nil, q_app_cons, q_app_nil, q_len_cons, q_len_nil, q_rep_0, q_rep_s, q_get_0, q_get_s, q_set_0, q_set_s, ifP_t, ifP_f, Nat.reduceAdd, Nat.reduceSub, Int.reduceToNat, Int.reducePow, Int.reduceAdd, Int.reduceMul])))
local macro_rules | `(tactic| walk_at "sd") => `(tactic| first | with_reducible assumption | omega | with_reducible rfl | decide | exact few_of (by decide) | exact divOk_small (by decide) (by decide +kernel) | exact mulOk_r (by omega) (by omega) | exact mulOk_l (by omega) (by omega) | exact few_of (by simp only [List.length_append, List.length_map, List.length_cons, List.length_nil, tab_len, List.length_replicate]; omega))
local macro_rules | `(tactic| walk_at "go") => `(tactic| ((try walk_at "rd"); (repeat (refine And.intro (by walk_at "sd") ?_; try walk_at "rd"))))
abbrev g_is_whole : DF := fun ds Q _ => ∃ d b, ds = [d] ∧ isWh d = some b ∧ Q (.bl b)
abbrev N_is_whole : List Str := ["thing"]
def tb_is_whole (K : PySem.W.Frag) : DS :=
  (dRet (dAndV (dCB (kIsi K) (dCons (dVarP 0) (dCons (dC (.ty "int")) dNil))) (dNotV (dCB (kIsi K) (dCons (dVarP 0) (dCons (dC (.ty "bool")) dNil))))))
theorem rd_is_whole {K : PySem.W.Frag} (ds : List D) (Q E : EQ) (_ : ds.length = 1) (h : g_is_whole ds Q E) : tb_is_whole K (dE Q E) (startD N_is_whole ds) := by
  obtain ⟨d, b, rfl, hd, q⟩ := h
  unfold tb_is_whole dE
  cases d <;> first
    | (cases hd; walk_at "rd"; exact q)
    | cases hd
abbrev g_common : DF := fun ds Q _ => ∃ a b : Int, ds = [.int a, .int b] ∧ Q (.int (Int.gcd a b : Int))
abbrev N_common : List Str := ["one", "other"]
def tb_common : DS :=
  (dSq (dWhile (dTest (dOp kNe (dVarP 1) (dC (.int 0)))) (dPar 0 1 (dCons (dVar 1) (dCons (dOp kMod (dVarP 0) (dVarP 1)) dNil)))) (dRet (dCB k_abs (dCons (dVarP 0) dNil))))
theorem rd_common (ds : List D) (Q E : EQ) (_ : ds.length = 2) (h : g_common ds Q E) : tb_common (dE Q E) (startD N_common ds) := by
  obtain ⟨a, b, rfl, q⟩ := h
  unfold tb_common dE
  refine gcd_loop fun a' b' hb hg => ?_
  walk_at "rd"
  rw [abs_nat, hg]
  exact q
abbrev g_fraction : DF := fun ds Q _ => ∃ t b : Int, ds = [.int t, .int b] ∧ b ≠ 0 ∧ bnd 8000 b ∧ Q (fr t b)
abbrev N_fraction : List Str := ["top", "bottom", "share"]
def tb_fraction : DS :=
  (dSq (dIf (dOr (dNot (dTest (dCall 1 [] g_is_whole (dCons (dVar 0) dNil)))) (dOr (dNot (dTest (dCall 1 [] g_is_whole (dCons (dVar 1) dNil)))) (dTest (dOp kEq (dVarP 1) (dC (.int 0)))))) dNever dNext) (dSq (dSet 2 (dCall 2 [] g_common (dCons (dVar 0) (dCons (dVar 1) dNil)))) (dSq (dIf (dTest (dOp kLt (dVarP 1) (dC (.int 0)))) (dSet 2 (dOp kSub (dC (.int 0)) (dVarP 2))) dNext) (dRet (dTup (dCons (dOp kDiv (dVarP 0) (dVarP 2)) (dCons (dOp kDiv (dVarP 1) (dVarP 2)) dNil)))))))
theorem rd_fraction (ds : List D) (Q E : EQ) (_ : ds.length = 2) (h : g_fraction ds Q E) : tb_fraction (dE Q E) (startD N_fraction ds) := by
  obtain ⟨t, b, rfl, hb, bb, q⟩ := h
  unfold tb_fraction dE
  walk_at "go"
  refine ⟨_, true, rfl, rfl, ?_⟩
  walk_at "go"
  refine ⟨_, true, rfl, rfl, ?_⟩
  walk_at "go"
  rw [decide_eq_false hb]
  walk_at "go"
  refine ⟨t, b, rfl, ?_⟩
  walk_at "go"
  have hs := shr_ne (t := t) hb
  have hd := div_of hs (shr_bnd hb bb)
  unfold fr at q
  unfold shr at hs hd q
  by_cases h0 : b < 0
  · rw [decide_eq_true h0]
    rw [if_pos h0] at hs hd q
    walk_at "go"
    rw [Int.zero_sub]
    walk_at "go"
    exact q
  · rw [decide_eq_false h0]
    rw [if_neg h0] at hs hd q
    walk_at "go"
    exact q
abbrev g_plus : DF := fun ds Q _ => ∃ a b c d : Int, ds = [pr a b, pr c d] ∧ 0 < b ∧ 0 < d ∧ bnd 4000 a ∧ bnd 4000 b ∧ bnd 4000 c ∧ bnd 4000 d ∧ Q (fr (a * d + c * b) (b * d))
abbrev N_plus : List Str := ["one", "other"]
def tb_plus : DS :=
  (dRet (dCall 2 [] g_fraction (dCons (dOp kAdd (dOp kMul (dOp kIx (dVarP 0) (dC (.int 0))) (dOp kIx (dVarP 1) (dC (.int 1)))) (dOp kMul (dOp kIx (dVarP 1) (dC (.int 0))) (dOp kIx (dVarP 0) (dC (.int 1))))) (dCons (dOp kMul (dOp kIx (dVarP 0) (dC (.int 1))) (dOp kIx (dVarP 1) (dC (.int 1)))) dNil))))
theorem rd_plus (ds : List D) (Q E : EQ) (_ : ds.length = 2) (h : g_plus ds Q E) : tb_plus (dE Q E) (startD N_plus ds) := by
  obtain ⟨a, b, c, d, rfl, h1, h2, b1, b2, b3, b4, q⟩ := h
  have m1 := mul_of b1 b4 (by decide)
  have m2 := mul_of b3 b2 (by decide)
  have m3 := mul_of b2 b4 (by decide)
  unfold tb_plus dE
  walk_at "go"
  exact ⟨_, _, rfl, Int.ne_of_gt (Int.mul_pos h1 h2), bnd_mul b2 b4, q⟩
abbrev g_minus : DF := fun ds Q _ => ∃ a b c d : Int, ds = [pr a b, pr c d] ∧ 0 < b ∧ 0 < d ∧ bnd 4000 a ∧ bnd 4000 b ∧ bnd 4000 c ∧ bnd 4000 d ∧ Q (fr (a * d - c * b) (b * d))
abbrev N_minus : List Str := ["one", "other"]
def tb_minus : DS :=
  (dRet (dCall 2 [] g_fraction (dCons (dOp kSub (dOp kMul (dOp kIx (dVarP 0) (dC (.int 0))) (dOp kIx (dVarP 1) (dC (.int 1)))) (dOp kMul (dOp kIx (dVarP 1) (dC (.int 0))) (dOp kIx (dVarP 0) (dC (.int 1))))) (dCons (dOp kMul (dOp kIx (dVarP 0) (dC (.int 1))) (dOp kIx (dVarP 1) (dC (.int 1)))) dNil))))
theorem rd_minus (ds : List D) (Q E : EQ) (_ : ds.length = 2) (h : g_minus ds Q E) : tb_minus (dE Q E) (startD N_minus ds) := by
  obtain ⟨a, b, c, d, rfl, h1, h2, b1, b2, b3, b4, q⟩ := h
  have m1 := mul_of b1 b4 (by decide)
  have m2 := mul_of b3 b2 (by decide)
  have m3 := mul_of b2 b4 (by decide)
  unfold tb_minus dE
  walk_at "go"
  exact ⟨_, _, rfl, Int.ne_of_gt (Int.mul_pos h1 h2), bnd_mul b2 b4, q⟩
abbrev g_times : DF := fun ds Q _ => ∃ a b c d : Int, ds = [pr a b, pr c d] ∧ 0 < b ∧ 0 < d ∧ bnd 4000 a ∧ bnd 4000 b ∧ bnd 4000 c ∧ bnd 4000 d ∧ Q (fr (a * c) (b * d))
abbrev N_times : List Str := ["one", "other"]
def tb_times : DS :=
  (dRet (dCall 2 [] g_fraction (dCons (dOp kMul (dOp kIx (dVarP 0) (dC (.int 0))) (dOp kIx (dVarP 1) (dC (.int 0)))) (dCons (dOp kMul (dOp kIx (dVarP 0) (dC (.int 1))) (dOp kIx (dVarP 1) (dC (.int 1)))) dNil))))
theorem rd_times (ds : List D) (Q E : EQ) (_ : ds.length = 2) (h : g_times ds Q E) : tb_times (dE Q E) (startD N_times ds) := by
  obtain ⟨a, b, c, d, rfl, h1, h2, b1, b2, b3, b4, q⟩ := h
  have m1 := mul_of b1 b3 (by decide)
  have m3 := mul_of b2 b4 (by decide)
  unfold tb_times dE
  walk_at "go"
  exact ⟨_, _, rfl, Int.ne_of_gt (Int.mul_pos h1 h2), bnd_mul b2 b4, q⟩
abbrev g_under : DF := fun ds Q _ => ∃ a b c d : Int, ds = [pr a b, pr c d] ∧ bnd 4000 a ∧ bnd 4000 b ∧ bnd 4000 c ∧ bnd 4000 d ∧ Q (.bl (decide (a * d < c * b)))
abbrev N_under : List Str := ["one", "other"]
def tb_under : DS :=
  (dRet (dOp kLt (dOp kMul (dOp kIx (dVarP 0) (dC (.int 0))) (dOp kIx (dVarP 1) (dC (.int 1)))) (dOp kMul (dOp kIx (dVarP 1) (dC (.int 0))) (dOp kIx (dVarP 0) (dC (.int 1))))))
theorem rd_under (ds : List D) (Q E : EQ) (_ : ds.length = 2) (h : g_under ds Q E) : tb_under (dE Q E) (startD N_under ds) := by
  obtain ⟨a, b, c, d, rfl, b1, b2, b3, b4, q⟩ := h
  have m1 := mul_of b1 b4 (by decide)
  have m2 := mul_of b3 b2 (by decide)
  unfold tb_under dE
  walk_at "go"
  exact q
abbrev g_floor_of : DF := fun ds Q _ => ∃ a b : Int, ds = [pr a b] ∧ 0 < b ∧ bnd 8000 b ∧ Q (.int (a.fdiv b))
abbrev N_floor_of : List Str := ["value"]
def tb_floor_of : DS :=
  (dRet (dOp kDiv (dOp kIx (dVarP 0) (dC (.int 0))) (dOp kIx (dVarP 0) (dC (.int 1)))))
theorem rd_floor_of (ds : List D) (Q E : EQ) (_ : ds.length = 1) (h : g_floor_of ds Q E) : tb_floor_of (dE Q E) (startD N_floor_of ds) := by
  obtain ⟨a, b, rfl, h1, bb, q⟩ := h
  have hd := div_of (by omega) bb
  unfold tb_floor_of dE
  walk_at "go"
  exact q
abbrev g_ceiling_of : DF := fun ds Q _ => ∃ a b : Int, ds = [pr a b] ∧ 0 < b ∧ bnd 8000 b ∧ Q (.int (0 - (0 - a).fdiv b))
abbrev N_ceiling_of : List Str := ["value"]
def tb_ceiling_of : DS :=
  (dRet (dOp kSub (dC (.int 0)) (dOp kDiv (dOp kSub (dC (.int 0)) (dOp kIx (dVarP 0) (dC (.int 0)))) (dOp kIx (dVarP 0) (dC (.int 1))))))
theorem rd_ceiling_of (ds : List D) (Q E : EQ) (_ : ds.length = 1) (h : g_ceiling_of ds Q E) : tb_ceiling_of (dE Q E) (startD N_ceiling_of ds) := by
  obtain ⟨a, b, rfl, h1, bb, q⟩ := h
  have hd := div_of (by omega) bb
  unfold tb_ceiling_of dE
  walk_at "go"
  exact q
abbrev g__law_cell_at : DF := fun ds Q _ => ∃ (ns : List Int) (k : Nat), ds = [.frl (ns.map .int), .int k] ∧ Q (.int (ns.getD k 0))
abbrev N__law_cell_at : List Str := ["_law_script", "_law_k"]
def tb__law_cell_at : DS :=
  (dSq (dIf (dTest (dOp kLt (dVarP 1) (dCB kLen (dCons (dVarP 0) dNil)))) (dRet (dOp kIx (dVarP 0) (dVarP 1))) dNext) (dRet (dC (.int 0))))
theorem rd__law_cell_at (ds : List D) (Q E : EQ) (_ : ds.length = 2) (h : g__law_cell_at ds Q E) : tb__law_cell_at (dE Q E) (startD N__law_cell_at ds) := by
  obtain ⟨ns, k, rfl, q⟩ := h
  unfold tb__law_cell_at dE
  walk_at "rd"
  rw [List.length_map]
  rw [List.getD_eq_getElem?_getD] at q
  by_cases hk : k < ns.length
  · rw [decide_eq_true (by omega)]
    walk_at "rd"
    rw [atI_nn, List.getElem?_map, List.getElem?_eq_getElem hk]
    rw [List.getElem?_eq_getElem hk] at q
    exact q
  · rw [decide_eq_false (by omega)]
    walk_at "rd"
    rw [List.getElem?_eq_none (by omega)] at q
    exact q
end Dl

/-! The D-layer, part 16: fractions are equal where their cross products are. -/
namespace Dl
open PySem PySem.Spec
open PyProof.Rows L2
theorem fr_parts (t : Int) {b : Int} (hb : 0 < b) : ∃ s u v : Int, 0 < s ∧ 0 < v ∧ t = s * u ∧ b = s * v ∧ Nat.gcd u.natAbs v.natAbs = 1 ∧ t.fdiv (shr t b) = u ∧ b.fdiv (shr t b) = v := by
  have hg : 0 < Int.gcd t b := Nat.pos_of_ne_zero fun e => by have := (Int.gcd_eq_zero_iff.mp e).2; omega
  obtain ⟨u, hu⟩ : (Int.gcd t b : Int) ∣ t := Int.gcd_dvd_left ..
  obtain ⟨v, hv⟩ : (Int.gcd t b : Int) ∣ b := Int.gcd_dvd_right ..
  have hs : shr t b = (Int.gcd t b : Int) := by unfold shr; rw [if_neg (by omega)]
  have e1 : t.fdiv (Int.gcd t b : Int) = u := by
    conv => lhs; arg 1; rw [hu]
    exact Int.mul_fdiv_cancel_left _ (by omega)
  have e2 : b.fdiv (Int.gcd t b : Int) = v := by
    conv => lhs; arg 1; rw [hv]
    exact Int.mul_fdiv_cancel_left _ (by omega)
  have v0 : 0 < v := by
    have := fr_pos (t := t) hb
    rw [hs, e2] at this
    exact this
  refine ⟨_, u, v, by omega, v0, hu, hv, ?_, by rw [hs, e1], by rw [hs, e2]⟩
  have a1 : t.natAbs = Int.gcd t b * u.natAbs := by
    have := congrArg Int.natAbs hu
    rw [Int.natAbs_mul] at this
    exact this
  have a2 : b.natAbs = Int.gcd t b * v.natAbs := by
    have := congrArg Int.natAbs hv
    rw [Int.natAbs_mul] at this
    exact this
  have h1 : Int.gcd t b = Int.gcd t b * Nat.gcd u.natAbs v.natAbs := by
    rw [← Nat.gcd_mul_left, ← a1, ← a2]
    rfl
  have := Nat.eq_of_mul_eq_mul_left hg ((Nat.mul_one _).trans h1)
  exact this.symm
theorem fr_eq {t b t' b' : Int} (hb : 0 < b) (hb' : 0 < b') (h : t * b' = t' * b) : fr t b = fr t' b' := by
  obtain ⟨s, u, v, s0, v0, e1, e2, c, d1, d2⟩ := fr_parts t hb
  obtain ⟨s', u', v', s0', v0', e1', e2', c', d1', d2'⟩ := fr_parts t' hb'
  have h2 : u * v' = u' * v := by
    have : (s * s') * (u * v') = (s * s') * (u' * v) := by
      rw [e1, e2, e1', e2'] at h
      have a1 : s * u * (s' * v') = s * s' * (u * v') := by ac_rfl
      have a2 : s' * u' * (s * v) = s * s' * (u' * v) := by ac_rfl
      rw [a1, a2] at h
      exact h
    exact Int.eq_of_mul_eq_mul_left (Int.ne_of_gt (Int.mul_pos s0 s0')) this
  have h3 : u.natAbs * v'.natAbs = u'.natAbs * v.natAbs := by rw [← Int.natAbs_mul, ← Int.natAbs_mul, h2]
  have k1 : v.natAbs ∣ v'.natAbs := Nat.Coprime.dvd_of_dvd_mul_left (show Nat.Coprime v.natAbs u.natAbs by rw [Nat.coprime_comm]; exact c) ⟨u'.natAbs, by rw [h3, Nat.mul_comm]⟩
  have k2 : v'.natAbs ∣ v.natAbs := Nat.Coprime.dvd_of_dvd_mul_left (show Nat.Coprime v'.natAbs u'.natAbs by rw [Nat.coprime_comm]; exact c') ⟨u.natAbs, by rw [← h3, Nat.mul_comm]⟩
  have k3 := Nat.dvd_antisymm k1 k2
  have k4 : v = v' := by omega
  subst k4
  have k5 : u = u' := Int.eq_of_mul_eq_mul_right (Int.ne_of_gt v0) h2
  unfold fr
  rw [d1, d2, d1', d2', k5]
/-- the parts of a fraction, its cross product -/
theorem fr_cross (t : Int) {b : Int} (hb : 0 < b) : t.fdiv (shr t b) * b = t * b.fdiv (shr t b) := by
  obtain ⟨s, u, v, s0, v0, e1, e2, c, d1, d2⟩ := fr_parts t hb
  rw [d1, d2, e1, e2]
  ac_rfl
theorem fr_one (t : Int) : fr t 1 = pr t 1 := by
  have e : shr t 1 = 1 := by unfold shr; rw [if_neg (by decide), Int.gcd_one]; rfl
  unfold fr
  rw [e, Int.fdiv_one, Int.fdiv_one]
theorem bnd_add {k : Nat} {x y : Int} (h1 : bnd k x) (h2 : bnd k y) : bnd (k + 1) (x + y) := by
  unfold bnd at *
  rw [Nat.pow_succ]
  omega
/-- sum and bottom of rows along a point -/
def wsF : List Int → List (Int × Int) → Int → Int → Int × Int
  | r :: rs, p :: ps, T, B => wsF rs ps (T * p.2 + r * p.1 * B) (B * p.2)
  | _, _, T, B => (T, B)
def prD (p : Int × Int) : D := pr p.1 p.2
/-- points whose numbers are not great -/
def okP (k : Nat) (ps : List (Int × Int)) : Prop := ∀ p ∈ ps, 0 < p.2 ∧ bnd k p.1 ∧ bnd k p.2
def okR (k : Nat) (rs : List Int) : Prop := ∀ r ∈ rs, bnd k r
theorem wsF_pos : ∀ (rs : List Int) (ps : List (Int × Int)) (T B : Int), 0 < B → (∀ p ∈ ps, 0 < p.2) → 0 < (wsF rs ps T B).2
  | [], ps, T, B, h, _ => by unfold wsF; exact h
  | r :: rs, [], T, B, h, _ => by unfold wsF; exact h
  | r :: rs, p :: ps, T, B, h, hp => by
    unfold wsF
    exact wsF_pos rs ps _ _ (Int.mul_pos h (hp p List.mem_cons_self)) fun q hq => hp q (List.mem_cons_of_mem _ hq)
theorem wsF_bnd : ∀ (rs : List Int) (ps : List (Int × Int)) (T B : Int) (k : Nat), k + ps.length ≤ 9 → bnd (600 + 302 * k) T → bnd (300 * k + 1) B → okR 300 rs → okP 300 ps → bnd 3400 (wsF rs ps T B).1 ∧ bnd 2800 (wsF rs ps T B).2
  | [], ps, T, B, k, hk, hT, hB, _, _ => by unfold wsF; exact ⟨bnd_mono hT (by omega), bnd_mono hB (by omega)⟩
  | r :: rs, [], T, B, k, hk, hT, hB, _, _ => by rw [List.length_nil] at hk; unfold wsF; exact ⟨bnd_mono hT (by omega), bnd_mono hB (by omega)⟩
  | r :: rs, p :: ps, T, B, k, hk, hT, hB, hr, hp => by
    rw [List.length_cons] at hk
    obtain ⟨p0, p1, p2⟩ := hp p List.mem_cons_self
    have r1 := hr r List.mem_cons_self
    unfold wsF
    refine wsF_bnd rs ps _ _ (k + 1) (by omega) ?_ ?_ (fun q hq => hr q (List.mem_cons_of_mem _ hq)) fun q hq => hp q (List.mem_cons_of_mem _ hq)
    · exact bnd_mono (bnd_add (k := 901 + 302 * k) (bnd_mono (bnd_mul hT p2) (by omega)) (bnd_mono (bnd_mul (bnd_mul r1 p1) hB) (by omega))) (by omega)
    · exact bnd_mono (bnd_mul hB p2) (by omega)
end Dl

/-! The D-layer, part 17: rows along points; the laws' tools. -/
namespace Dl
open PySem PySem.Spec
open PyProof.Rows L2
local macro_rules | `(tactic| walk_at "rd") => `(tactic| ((conv => whnf); (try dsimp only [startD, wipeD, q_map_cons, q_map_nil, q_app_cons, q_app_nil, q_len_cons, q_len_nil, q_rep_0, q_rep_s, q_get_0, q_get_s, q_set_0, q_set_s, ifP_t, ifP_f, Nat.reduceAdd, Nat.reduceSub, Int.reduceToNat, Int.reducePow, Int.reduceAdd, Int.reduceMul])))
local macro_rules | `(tactic| walk_at "sd") => `(tactic| first | with_reducible assumption | omega | with_reducible rfl | decide | exact few_of (by decide) | exact divOk_small (by decide) (by decide +kernel) | exact mulOk_r (by omega) (by omega) | exact mulOk_l (by omega) (by omega) | exact few_of (by simp only [List.length_append, List.length_map, List.length_cons, List.length_nil, tab_len, List.length_replicate]; omega))
local macro_rules | `(tactic| walk_at "go") => `(tactic| ((try walk_at "rd"); (repeat (refine And.intro (by walk_at "sd") ?_; try walk_at "rd"))))
abbrev g_along : DF := fun ds Q _ => ∃ (rs : List Int) (ps : List (Int × Int)) (row : D), ds = [row, .lst (ps.map prD)] ∧ (row = .tup (rs.map .int) ∨ row = .lst (rs.map .int)) ∧ ps.length ≤ 9 ∧ okR 300 rs ∧ okP 300 ps ∧
  Q (fr (wsF rs ps 0 1).1 (wsF rs ps 0 1).2)
abbrev N_along : List Str := ["row", "point", "found", "share", "number"]
def tb_along : DS :=
  (dSq (dSet 2 (dCall 2 [.int 1] g_fraction (dCons (dC (.int 0)) dNil))) (dSq (dFor (dZip (dVar 0) (dVar 1)) (gTp 2 (gCs (gNm 3) (gCs (gNm 4) gNl))) (dSet 2 (dCall 2 [] g_plus (dCons (dVar 2) (dCons (dCall 2 [] g_times (dCons (dCall 2 [.int 1] g_fraction (dCons (dVar 3) dNil)) (dCons (dVar 4) dNil))) dNil))))) (dRet (dVar 2))))
theorem along_loop {d : DE} {a b : Sl} : ∀ (rs : List Int) (ps : List (Int × Int)) (T B : Int) (k : Nat) (s3 s4 : Sl), k + ps.length ≤ 9 → 0 < B → bnd (600 + 302 * k) T → bnd (300 * k + 1) B → okR 300 rs → okP 300 ps →
    (∀ s3 s4, d.nx [a, b, .sh (fr (wsF rs ps T B).1 (wsF rs ps T B).2), s3, s4]) →
    loopD (gTp 2 (gCs (gNm 3) (gCs (gNm 4) gNl))) (dSet 2 (dCall 2 [] g_plus (dCons (dVar 2) (dCons (dCall 2 [] g_times (dCons (dCall 2 [.int 1] g_fraction (dCons (dVar 3) dNil)) (dCons (dVar 4) dNil))) dNil)))) d
      (pairs (rs.map .int) (ps.map prD)) [a, b, .sh (fr T B), s3, s4]
  | [], ps, T, B, k, s3, s4, hk, h0, hT, hB, hr, hp, h => lp_nil (h s3 s4)
  | r :: rs, [], T, B, k, s3, s4, hk, h0, hT, hB, hr, hp, h => lp_nil (h s3 s4)
  | r :: rs, p :: ps, T, B, k, s3, s4, hk, h0, hT, hB, hr, hp, h => by
    rw [List.length_cons] at hk
    obtain ⟨p0, p1, p2⟩ := hp p List.mem_cons_self
    have r1 := hr r List.mem_cons_self
    refine lp_cons ?_
    unfold prD
    walk_at "go"
    refine ⟨r, 1, rfl, by decide, by unfold bnd; exact Nat.one_lt_two_pow (by decide), ?_⟩
    rw [fr_one]
    walk_at "go"
    refine ⟨r, 1, p.1, p.2, rfl, by decide, p0, bnd_mono r1 (by decide), by unfold bnd; exact Nat.one_lt_two_pow (by decide), bnd_mono p1 (by decide), bnd_mono p2 (by decide), ?_⟩
    rw [Int.one_mul]
    walk_at "go"
    obtain ⟨x1, x2, x3⟩ := fr_bnds h0 (bnd_mono (k := 4000) hT (by omega)) (bnd_mono (k := 4000) hB (by omega))
    obtain ⟨y1, y2, y3⟩ := fr_bnds (t := r * p.1) p0 (bnd_mono (k := 4000) (bnd_mul r1 p1) (by omega)) (bnd_mono (k := 4000) p2 (by omega))
    refine ⟨_, _, _, _, rfl, x1, y1, x2, x3, y2, y3, ?_⟩
    have c1 := fr_cross T h0
    have c2 := fr_cross (r * p.1) p0
    have e : fr (T.fdiv (shr T B) * p.2.fdiv (shr (r * p.1) p.2) + (r * p.1).fdiv (shr (r * p.1) p.2) * B.fdiv (shr T B)) (B.fdiv (shr T B) * p.2.fdiv (shr (r * p.1) p.2)) = fr (T * p.2 + r * p.1 * B) (B * p.2) := by
      refine fr_eq (Int.mul_pos x1 y1) (Int.mul_pos h0 p0) ?_
      generalize T.fdiv (shr T B) = u at *
      generalize B.fdiv (shr T B) = v at *
      generalize (r * p.1).fdiv (shr (r * p.1) p.2) = u' at *
      generalize p.2.fdiv (shr (r * p.1) p.2) = v' at *
      rw [Int.add_mul, Int.add_mul]
      have a1 : u * v' * (B * p.2) = (u * B) * (v' * p.2) := by ac_rfl
      have a2 : u' * v * (B * p.2) = (u' * p.2) * (v * B) := by ac_rfl
      rw [a1, a2, c1, c2]
      ac_rfl
    rw [e]
    walk_at "go"
    refine along_loop rs ps _ _ (k + 1) _ _ (by omega) (Int.mul_pos h0 p0) ?_ ?_ (fun q hq => hr q (List.mem_cons_of_mem _ hq)) (fun q hq => hp q (List.mem_cons_of_mem _ hq)) h
    · exact bnd_mono (bnd_add (k := 901 + 302 * k) (bnd_mono (bnd_mul hT p2) (by omega)) (bnd_mono (bnd_mul (bnd_mul r1 p1) hB) (by omega))) (by omega)
    · exact bnd_mono (bnd_mul hB p2) (by omega)
theorem bnd_one {k : Nat} (h : k ≠ 0) : bnd k 1 := by unfold bnd; exact Nat.one_lt_two_pow h
theorem bnd_zero {k : Nat} : bnd k 0 := by unfold bnd; exact Nat.pow_pos (by decide)
theorem rd_along (ds : List D) (Q E : EQ) (_ : ds.length = 2) (h : g_along ds Q E) : tb_along (dE Q E) (startD N_along ds) := by
  obtain ⟨rs, ps, row, rfl, hrow, hl, hr, hp, q⟩ := h
  unfold tb_along dE
  walk_at "go"
  refine ⟨0, 1, rfl, by decide, bnd_one (by decide), ?_⟩
  rcases hrow with rfl | rfl
  · walk_at "go"
    exact along_loop rs ps 0 1 0 _ _ (by omega) (by decide) bnd_zero (bnd_one (by decide)) hr hp fun s3 s4 => q
  · walk_at "go"
    exact along_loop rs ps 0 1 0 _ _ (by omega) (by decide) bnd_zero (bnd_one (by decide)) hr hp fun s3 s4 => q
end Dl

/-! The D-layer, part 18: rows that hold; the laws' tools. -/
namespace Dl
open PySem PySem.Spec
open PyProof.Rows L2
local macro_rules | `(tactic| walk_at "rd") => `(tactic| ((conv => whnf); (try dsimp only [startD, wipeD, q_map_cons, q_map_nil, q_app_cons, q_app_nil, q_len_cons, q_len_nil, q_rep_0, q_rep_s, q_get_0, q_get_s, q_set_0, q_set_s, ifP_t, ifP_f, Nat.reduceAdd, Nat.reduceSub, Int.reduceToNat, Int.reducePow, Int.reduceAdd, Int.reduceMul])))
local macro_rules | `(tactic| walk_at "sd") => `(tactic| first | with_reducible assumption | omega | with_reducible rfl | decide | exact few_of (by decide) | exact divOk_small (by decide) (by decide +kernel) | exact mulOk_r (by omega) (by omega) | exact mulOk_l (by omega) (by omega) | exact few_of (by simp only [List.length_append, List.length_map, List.length_cons, List.length_nil, tab_len, List.length_replicate]; omega))
local macro_rules | `(tactic| walk_at "go") => `(tactic| ((try walk_at "rd"); (repeat (refine And.intro (by walk_at "sd") ?_; try walk_at "rd"))))
abbrev ptsD (ps : List (Int × Int)) : D := .lst (ps.map prD)
/-- whether a row holds at a point -/
def hld (rs : List Int) (b : Int) (ps : List (Int × Int)) : Bool := decide ((wsF rs ps 0 1).1 ≤ b * (wsF rs ps 0 1).2)
/-- row and bound, as a tuple or a list -/
def isRow (row : D) (xs : List Int) : Prop := row = .tup (xs.map .int) ∨ row = .lst (xs.map .int)
theorem wsF_snoc : ∀ (rs : List Int) (b : Int) (ps : List (Int × Int)) (T B : Int), rs.length = ps.length → wsF (rs ++ [b]) ps T B = wsF rs ps T B
  | [], b, [], T, B, _ => rfl
  | [], b, p :: ps, T, B, h => by cases h
  | r :: rs, b, [], T, B, h => by cases h
  | r :: rs, b, p :: ps, T, B, h => by
    rw [List.cons_append]
    unfold wsF
    exact wsF_snoc rs b ps _ _ (by simpa using h)
abbrev g_holds : DF := fun ds Q _ => ∃ (rs : List Int) (b : Int) (ps : List (Int × Int)) (row : D), ds = [row, ptsD ps] ∧ isRow row (rs ++ [b]) ∧ rs.length = ps.length ∧ ps.length ≤ 9 ∧ okR 300 rs ∧ bnd 300 b ∧ okP 300 ps ∧ Q (.bl (hld rs b ps))
abbrev N_holds : List Str := ["row", "point"]
def tb_holds : DS :=
  (dRet (dNotV (dCall 2 [] g_under (dCons (dCall 2 [.int 1] g_fraction (dCons (dOp kIx (dVarP 0) (dNeg (dC (.int 1)))) dNil)) (dCons (dCall 2 [] g_along (dCons (dVar 0) (dCons (dVar 1) dNil))) dNil)))))
theorem atI_last {rs : List Int} {b : Int} : atI ((rs ++ [b]).map D.int) (-1) = some (.int b) := by
  unfold atI ixN
  rw [List.length_map, List.length_append, if_neg (by decide), if_pos (by rw [List.length_singleton]; omega)]
  show ((rs ++ [b]).map D.int)[((-1 : Int) + ((rs.length + 1 : Nat) : Int)).toNat]? = _
  rw [show ((-1 : Int) + ((rs.length + 1 : Nat) : Int)).toNat = rs.length by omega, List.getElem?_map, List.getElem?_append_right (Nat.le_refl _), Nat.sub_self]
  rfl
theorem okR_snoc {k : Nat} {rs : List Int} {b : Int} (h : okR k rs) (hb : bnd k b) : okR k (rs ++ [b]) := fun r hr => by
  rcases List.mem_append.mp hr with z | z
  · exact h r z
  · rw [List.mem_singleton.mp z]; exact hb
theorem rd_holds (ds : List D) (Q E : EQ) (_ : ds.length = 2) (h : g_holds ds Q E) : tb_holds (dE Q E) (startD N_holds ds) := by
  obtain ⟨rs, b, ps, row, rfl, hrow, hl, h9, hr, hb, hp, q⟩ := h
  have e1 : (fun Q => asO Q (atI ((rs ++ [b]).map D.int) (-1))) = fun Q => Q (.int b) := by rw [atI_last]; rfl
  have w0 := wsF_pos rs ps 0 1 (by decide) fun p hp' => (hp p hp').1
  obtain ⟨w1, w2⟩ := wsF_bnd rs ps 0 1 0 (by omega) bnd_zero (bnd_one (by decide)) hr hp
  obtain ⟨x1, x2, x3⟩ := fr_bnds w0 (bnd_mono (k := 4000) w1 (by decide)) (bnd_mono (k := 4000) w2 (by decide))
  have cr := fr_cross (wsF rs ps 0 1).1 w0
  unfold tb_holds dE
  unfold hld at q
  have fin : ∀ row : D, isRow row (rs ++ [b]) → kIx row (.int (-1)) = (fun Q => Q (.int b)) → dRet (dNotV (dCall 2 [] g_under (dCons (dCall 2 [.int 1] g_fraction (dCons (dOp kIx (dVarP 0) (dNeg (dC (.int 1)))) dNil)) (dCons (dCall 2 [] g_along (dCons (dVar 0) (dCons (dVar 1) dNil))) dNil)))) (dE Q E) [.sh row, .sh (ptsD ps)] := fun row hr2 hx => by
    unfold dRet dNotV dE dCall dCons dNil dOp dVarP dNeg dC
    walk_at "rd"
    show kIx row (.int (-1)) _
    rw [hx]
    walk_at "go"
    refine ⟨b, 1, rfl, by decide, bnd_one (by decide), ?_⟩
    rw [fr_one]
    walk_at "go"
    refine ⟨rs ++ [b], ps, row, rfl, hr2, h9, okR_snoc hr hb, hp, ?_⟩
    rw [wsF_snoc rs b ps 0 1 hl]
    walk_at "go"
    refine ⟨b, 1, _, _, rfl, bnd_mono hb (by decide), bnd_one (by decide), x2, x3, ?_⟩
    walk_at "rd"
    rw [Int.mul_one]
    generalize (wsF rs ps 0 1).1 = T at *
    generalize (wsF rs ps 0 1).2 = B at *
    generalize T.fdiv (shr T B) = u at *
    generalize B.fdiv (shr T B) = v at *
    have e : (!decide (b * v < u)) = decide (T ≤ b * B) := by
      have i1 : (b * v < u) ↔ (b * B < T) := by
        have z1 : b * v < u ↔ (b * v) * B < u * B := ⟨fun h => Int.mul_lt_mul_of_pos_right h w0, fun h => Int.lt_of_mul_lt_mul_right h (Int.le_of_lt w0)⟩
        have z2 : b * B < T ↔ (b * B) * v < T * v := ⟨fun h => Int.mul_lt_mul_of_pos_right h x1, fun h => Int.lt_of_mul_lt_mul_right h (Int.le_of_lt x1)⟩
        rw [z1, z2, cr, show b * v * B = b * B * v by ac_rfl]
      by_cases h : b * v < u
      · have := i1.mp h
        rw [decide_eq_true h, decide_eq_false (by omega)]
        rfl
      · have : ¬ b * B < T := fun z => h (i1.mpr z)
        rw [decide_eq_false h, decide_eq_true (by omega)]
        rfl
    rw [e]
    exact q
  rcases hrow with rfl | rfl
  · exact fin _ (.inl rfl) e1
  · exact fin _ (.inr rfl) e1
end Dl

/-! The D-layer, part 19: rooms; the laws' tools. -/
namespace Dl
open PySem PySem.Spec
open PyProof.Rows L2
local macro_rules | `(tactic| walk_at "rd") => `(tactic| ((conv => whnf); (try dsimp only [startD, wipeD, q_map_cons, q_map_nil, q_app_cons, q_app_nil, q_len_cons, q_len_nil, q_rep_0, q_rep_s, q_get_0, q_get_s, q_set_0, q_set_s, ifP_t, ifP_f, Nat.reduceAdd, Nat.reduceSub, Int.reduceToNat, Int.reducePow, Int.reduceAdd, Int.reduceMul])))
local macro_rules | `(tactic| walk_at "sd") => `(tactic| first | with_reducible assumption | omega | with_reducible rfl | decide | exact few_of (by decide) | exact divOk_small (by decide) (by decide +kernel) | exact mulOk_r (by omega) (by omega) | exact mulOk_l (by omega) (by omega) | exact few_of (by simp only [List.length_append, List.length_map, List.length_cons, List.length_nil, tab_len, List.length_replicate]; omega))
local macro_rules | `(tactic| walk_at "go") => `(tactic| ((try walk_at "rd"); (repeat (refine And.intro (by walk_at "sd") ?_; try walk_at "rd"))))
theorem compL_gen {α : Type} {g : DG} {tt : TDb} {te : TD} {ρ : Env'} {Q : List D → Prop} (f : α → D) (R : α → Prop) (ds : List D)
    (h : ∀ d ∈ ds, ∀ (K1 : D → Prop) (K0 : Prop), (∀ a, R a → K1 (f a)) → g d ρ fun ρ2 => tt ρ2 (fun b => ifP b (te ρ2 K1 (fun _ => False)) K0) fun _ => False)
    (q : ∀ as : List α, as.length = ds.length → (∀ a ∈ as, R a) → Q (as.map f)) : compL g tt te ρ Q ds [] := by
  have go : ∀ (ds acc : List D), (∀ d ∈ ds, ∀ (K1 : D → Prop) (K0 : Prop), (∀ a, R a → K1 (f a)) → g d ρ fun ρ2 => tt ρ2 (fun b => ifP b (te ρ2 K1 (fun _ => False)) K0) fun _ => False) →
      (∀ as : List α, as.length = ds.length → (∀ a ∈ as, R a) → Q (acc ++ as.map f)) → compR g tt te ρ Q ds acc := by
    intro ds
    induction ds with
    | nil =>
      intro acc _ q
      have := q [] rfl (fun y hy => by cases hy)
      rw [List.map_nil, List.append_nil] at this
      exact this
    | cons d ds ih =>
      intro acc h q
      refine h d List.mem_cons_self _ _ fun y hy => ih _ (fun e he => h e (List.mem_cons_of_mem _ he)) fun as hl hp => ?_
      rw [List.append_assoc]
      exact q (y :: as) (by rw [List.length_cons, List.length_cons, hl]) fun z hz => by
        rcases List.mem_cons.mp hz with rfl | hz
        · exact hy
        · exact hp z hz
  exact ⟨go ds [] h fun as hl hp => q as hl hp⟩
theorem sIx_m1 (n : Nat) : HT.sIx n n (some (-1)) = n - 1 := by
  show (if ((-1 : Int)) < 0 then ((-1 : Int) + (n : Int)).toNat else min (-1 : Int).toNat n) = n - 1
  rw [if_pos (by decide)]
  omega
theorem cut_init {α : Type} (xs : List α) (x : α) : cut (xs ++ [x]) none (some (-1)) = xs := by
  unfold cut
  rw [sIx_m1, HT.sIx_none, List.length_append, List.length_singleton, Nat.add_sub_cancel, Nat.sub_zero, List.drop_zero]
  exact List.take_left' rfl
theorem cut_take {α : Type} (xs : List α) (k : Nat) : cut xs none (some (k : Int)) = xs.take k := by
  unfold cut
  rw [HT.sIx_nat, HT.sIx_none, Nat.sub_zero, List.drop_zero]
  by_cases h : k ≤ xs.length
  · rw [Nat.min_eq_left h]
  · rw [Nat.min_eq_right (by omega), List.take_of_length_le (Nat.le_refl _), List.take_of_length_le (by omega)]
/-- a row as the program writes it -/
def rowT (r : List Int × Int) : D := .tup ((r.1 ++ [r.2]).map .int)
def okRow (n : Nat) (r : List Int × Int) : Prop := r.1.length = n ∧ okR 300 r.1 ∧ bnd 300 r.2
abbrev g_lies_in : DF := fun ds Q _ => ∃ (rl : List (List Int × Int)) (ps : List (Int × Int)), ds = [.lst (rl.map rowT), ptsD ps] ∧ ps.length ≤ 9 ∧ okP 300 ps ∧ (∀ r ∈ rl, okRow ps.length r) ∧ Q (.bl (rl.all fun r => hld r.1 r.2 ps))
abbrev N_lies_in : List Str := ["room", "point", "row"]
def tb_lies_in : DS :=
  (dRet (dCB kAll (dCons (dFz (dLcN (dSeq (dVar 0)) (gNm 2) dYes (dCall 2 [] g_holds (dCons (dVar 2) (dCons (dVar 1) dNil))) [2])) dNil)))
theorem rd_lies_in (ds : List D) (Q E : EQ) (_ : ds.length = 2) (h : g_lies_in ds Q E) : tb_lies_in (dE Q E) (startD N_lies_in ds) := by
  obtain ⟨rl, ps, rfl, h9, hp, hr, q⟩ := h
  unfold tb_lies_in dE
  walk_at "go"
  have go : ∀ (rl : List (List Int × Int)) (acc : List Bool), (∀ r ∈ rl, okRow ps.length r) → ∀ Q' : List D → Prop, Q' ((acc ++ rl.map fun r => hld r.1 r.2 ps).map .bl) →
      ∀ ρ : Env', ρ.length = 3 → ρ[1]? = some (.sh (ptsD ps)) → compR (gNm 2) dYes (dCall 2 [] g_holds (dCons (dVar 2) (dCons (dVar 1) dNil))) ρ Q' (rl.map rowT) (acc.map .bl) := by
    intro rl
    induction rl with
    | nil =>
      intro acc _ Q' q ρ _ _
      rw [List.map_nil, List.append_nil] at q
      exact q
    | cons r rl ih =>
      intro acc hr Q' q ρ hl h1
      obtain ⟨r1, r2, r3⟩ := hr r List.mem_cons_self
      match ρ, hl, h1 with
      | [a, b, c], _, h1 =>
        cases h1
        rw [List.map_cons]
        unfold compR
        walk_at "go"
        refine ⟨r.1, r.2, ps, rowT r, rfl, .inl rfl, r1, h9, r2, r3, hp, ?_⟩
        have := ih (acc ++ [hld r.1 r.2 ps]) (fun q hq => hr q (List.mem_cons_of_mem _ hq)) Q' (by rw [List.append_assoc]; exact q) [a, .sh (ptsD ps), c] rfl rfl
        rw [List.map_append] at this
        exact this
  refine ⟨go rl [] hr _ ?_ _ rfl rfl⟩
  walk_at "go"
  rw [blsOf_map]
  walk_at "rd"
  rw [List.all_map]
  exact q
abbrev g__law_stream : DF := fun ds Q _ => ∃ (c : Int) (m : Nat), ds = [.int c, .int m] ∧ m ≤ 1000 ∧ ∀ X : Nat → Int, (∀ j, 0 ≤ X j ∧ X j < 10 ^ 45) → Q (.lst (tabD m X))
abbrev N__law_stream : List Str := ["_law_cell", "_law_many", "_law_found", "_law_rest", "_law_k", "_law_number_here"]
def tb__law_stream : DS :=
  (dSq (dOwn 2 (dLstN dNil)) (dSq (dIf (dTest (dOp kGe (dVarP 0) (dOp kPow (dC (.int 10)) (dC (.int 30))))) (dSq (dSet 3 (dOp kSub (dVarP 0) (dOp kPow (dC (.int 10)) (dC (.int 30))))) (dSq (dFor (dRng1 (dVarP 1)) (gNm 4) (dSq (dApp 2 (dOp kMod (dVarP 3) (dOp kPow (dC (.int 10)) (dC (.int 45))))) (dSet 3 (dOp kDiv (dVarP 3) (dOp kPow (dC (.int 10)) (dC (.int 45))))))) (dFrz 2 (dRet (dVar 2))))) dNext) (dSq (dSet 5 (dOp kAdd (dOp kMod (dVarP 0) (dOp kAdd (dOp kPow (dC (.int 10)) (dC (.int 18))) (dC (.int 9)))) (dC (.int 48271)))) (dSq (dFor (dRng1 (dOp kAdd (dVarP 1) (dC (.int 2)))) (gNm 4) (dSq (dSet 5 (dOp kMod (dOp kAdd (dOp kAdd (dOp kMul (dVarP 5) (dVarP 5)) (dOp kMul (dC (.int 48271)) (dVarP 5))) (dVarP 4)) (dOp kAdd (dOp kPow (dC (.int 10)) (dC (.int 18))) (dC (.int 9))))) (dApp 2 (dVar 5)))) (dRet (dSl (dVarP 2) (dPart (dC (.int 2))) dNoPart))))))
theorem p10 (k : Nat) : ((10 : Int) ^ (Int.toNat (k : Int))) = 10 ^ k := by rw [Int.toNat_natCast]
theorem stream_a {d : DE} {a b : Sl} {M : Nat} : ∀ (t k i : Nat) (F : Nat → Int) (rest : Int) (s4 : Sl), M ≤ 1000 → k + t = M → (∀ j, 0 ≤ F j ∧ F j < 10 ^ 45) →
    (∀ (F : Nat → Int) (s3 s4 : Sl), (∀ j, 0 ≤ F j ∧ F j < 10 ^ 45) → d.nx [a, b, .ow (tabD M F), s3, s4, .no]) →
    loopD (gNm 4) (dSq (dApp 2 (dOp kMod (dVarP 3) (dOp kPow (dC (.int 10)) (dC (.int 45))))) (dSet 3 (dOp kDiv (dVarP 3) (dOp kPow (dC (.int 10)) (dC (.int 45)))))) d (irg i t) [a, b, .ow (tabD k F), .sh (.int rest), s4, .no]
  | 0, k, i, F, rest, s4, hM, hk, hF, h => by
    have e : k = M := by omega
    subst e
    exact lp_r0 (h F _ _ hF)
  | t + 1, k, i, F, rest, s4, hM, hk, hF, h => by
    refine lp_rs ?_
    walk_at "rd"
    walk_at "go"
    rw [tab_snoc]
    walk_at "go"
    refine stream_a t (k + 1) (i + 1) _ _ _ hM (by omega) (fun j => ?_) h
    by_cases hj : j = k
    · rw [if_pos hj]
      exact ⟨Int.fmod_nonneg_of_pos _ (by omega), Int.fmod_lt_of_pos _ (by omega)⟩
    · rw [if_neg hj]; exact hF j

theorem stream_b {d : DE} {a b s3 : Sl} {M : Nat} : ∀ (t k i : Nat) (F : Nat → Int) (x : Int) (s4 : Sl), M ≤ 2000 → i + t ≤ 2000 → k + t = M → (0 ≤ x ∧ x < 2 * 10 ^ 18) → (∀ j, 0 ≤ F j ∧ F j < 10 ^ 45) →
    (∀ (F : Nat → Int) (s4 s5 : Sl), (∀ j, 0 ≤ F j ∧ F j < 10 ^ 45) → d.nx [a, b, .ow (tabD M F), s3, s4, s5]) →
    loopD (gNm 4) (dSq (dSet 5 (dOp kMod (dOp kAdd (dOp kAdd (dOp kMul (dVarP 5) (dVarP 5)) (dOp kMul (dC (.int 48271)) (dVarP 5))) (dVarP 4)) (dOp kAdd (dOp kPow (dC (.int 10)) (dC (.int 18))) (dC (.int 9))))) (dApp 2 (dVar 5))) d (irg i t) [a, b, .ow (tabD k F), s3, s4, .sh (.int x)]
  | 0, k, i, F, x, s4, hM, hi, hk, hx, hF, h => by
    have e : k = M := by omega
    subst e
    exact lp_r0 (h F _ _ hF)
  | t + 1, k, i, F, x, s4, hM, hi, hk, hx, hF, h => by
    refine lp_rs ?_
    walk_at "rd"
    have hb : bnd 64 x := by
      have : (2 : Int) * 10 ^ 18 ≤ 2 ^ 64 := by decide
      unfold bnd
      have h2 : ((x.natAbs : Nat) : Int) < ((2 ^ 64 : Nat) : Int) := by
        rw [Int.natAbs_of_nonneg hx.1]
        have : ((2 ^ 64 : Nat) : Int) = 2 ^ 64 := by decide
        omega
      omega
    have xx := mulOk_le (bits_of hb) (bits_of hb) (by omega)
    walk_at "go"
    rw [tab_snoc]
    walk_at "go"
    have hp : (0 : Int) < 1000000000000000009 := by omega
    have m1 := Int.fmod_nonneg_of_pos (x * x + 48271 * x + i) hp
    have m2 := Int.fmod_lt_of_pos (x * x + 48271 * x + i) hp
    refine stream_b t (k + 1) (i + 1) _ _ _ hM (by omega) (by omega) ⟨m1, by omega⟩ (fun j => ?_) h
    by_cases hj : j = k
    · rw [if_pos hj]; exact ⟨m1, by omega⟩
    · rw [if_neg hj]; exact hF j
theorem cut_2 (m : Nat) (F : Nat → Int) : cut (tabD (m + 2) F) (some 2) none = tabD m fun j => F (j + 2) := by
  unfold cut
  rw [tab_len, HT.sIx_none, show (2 : Int) = ((2 : Nat) : Int) from rfl, HT.sIx_nat, show min 2 (m + 2) = 2 by omega, show m + 2 - 2 = m by omega]
  refine List.ext_getElem? fun i => ?_
  by_cases hi : i < m
  · rw [tab_get hi, List.getElem?_take_of_lt hi, List.getElem?_drop, tab_get (by omega), Nat.add_comm]
  · rw [List.getElem?_eq_none (by rw [List.length_take, List.length_drop, tab_len]; omega), List.getElem?_eq_none (by rw [tab_len]; omega)]
theorem rd__law_stream (ds : List D) (Q E : EQ) (_ : ds.length = 2) (h : g__law_stream ds Q E) : tb__law_stream (dE Q E) (startD N__law_stream ds) := by
  obtain ⟨c, m, rfl, hm, q⟩ := h
  unfold tb__law_stream dE
  walk_at "go"
  have t0 : ∀ G : Nat → Int, ([] : List D) = tabD 0 G := fun _ => rfl
  by_cases hc : (1000000000000000000000000000000 : Int) ≤ c
  · rw [decide_eq_true hc]
    walk_at "go"
    rw [t0 (fun _ => 0), Int.toNat_natCast]
    refine stream_a (M := m) m 0 0 _ _ _ (by omega) (by omega) (fun _ => ⟨by omega, by omega⟩) fun F s3 s4 hF => ?_
    walk_at "rd"
    exact q F hF
  · rw [decide_eq_false hc]
    walk_at "go"
    rw [t0 (fun _ => 0), show ((m : Int) + 2).toNat = m + 2 by omega]
    have hp : (0 : Int) < 1000000000000000009 := by omega
    have m1 := Int.fmod_nonneg_of_pos c hp
    have m2 := Int.fmod_lt_of_pos c hp
    refine stream_b (M := m + 2) (m + 2) 0 0 _ _ _ (by omega) (by omega) (by omega) ⟨by omega, by omega⟩ (fun _ => ⟨by omega, by omega⟩) fun F s4 s5 hF => ?_
    walk_at "rd"
    rw [cut_2]
    exact q _ fun j => hF (j + 2)
abbrev g_num15 : DF := fun ds Q _ => ∃ x : Int, ds = [.int x] ∧ ∀ r : Int, -(10 ^ 15) < r → r < 10 ^ 15 → Q (.int r)
abbrev N_num15 : List Str := ["_law_x"]
def tb_num15 : DS :=
  (dRet (dOp kMul (dOp kMod (dOp kDiv (dVarP 0) (dC (.int 8))) (dOp kIx (dLst (dCons (dC (.int 1)) (dCons (dC (.int 4)) (dCons (dC (.int 4)) (dCons (dOp kPow (dC (.int 10)) (dC (.int 15))) dNil))))) (dOp kMod (dVarP 0) (dC (.int 4))))) (dOp kSub (dC (.int 1)) (dOp kMul (dOp kMod (dOp kDiv (dVarP 0) (dC (.int 4))) (dC (.int 2))) (dC (.int 2))))))
theorem pick4' (a b c e x : Int) : ∃ y, atI [D.int a, D.int b, D.int c, D.int e] (x.fmod 4) = some (.int y) ∧ (y = a ∨ y = b ∨ y = c ∨ y = e) := by
  obtain ⟨y, hm, h⟩ := pick [D.int a, D.int b, D.int c, D.int e] 4 x rfl (by decide)
  rcases List.mem_cons.mp hm with rfl | hm
  · exact ⟨_, h, .inl rfl⟩
  rcases List.mem_cons.mp hm with rfl | hm
  · exact ⟨_, h, .inr (.inl rfl)⟩
  rcases List.mem_cons.mp hm with rfl | hm
  · exact ⟨_, h, .inr (.inr (.inl rfl))⟩
  rw [List.mem_singleton.mp hm] at h
  exact ⟨_, h, .inr (.inr (.inr rfl))⟩
theorem rd_num15 (ds : List D) (Q E : EQ) (_ : ds.length = 1) (h : g_num15 ds Q E) : tb_num15 (dE Q E) (startD N_num15 ds) := by
  obtain ⟨x, rfl, q⟩ := h
  unfold tb_num15 dE
  walk_at "go"
  obtain ⟨y, hy, hc⟩ := pick4' 1 4 4 1000000000000000 x
  rw [hy]
  have z1 : 0 < y := by omega
  have m1 := Int.fmod_nonneg_of_pos (x.fdiv 8) z1
  have m2 := Int.fmod_lt_of_pos (x.fdiv 8) z1
  have hv := two (x.fdiv 4)
  walk_at "go"
  generalize (x.fdiv 8).fmod y = u at *
  generalize (x.fdiv 4).fmod 2 = v at *
  rcases hv with rfl | rfl
  · exact q _ (by omega) (by omega)
  · exact q _ (by omega) (by omega)
abbrev g_lowW : DF := fun ds Q _ => ∃ t b : Int, ds = [.int t, .int b] ∧ 0 < b ∧ bnd 8000 b ∧ Q (fr t b)
abbrev N_lowW : List Str := ["_law_top", "_law_bottom", "_law_one", "_law_other"]
def tb_lowW : DS :=
  (dSq (dSet 2 (dVar 0)) (dSq (dSet 3 (dVar 1)) (dSq (dWhile (dTest (dOp kNe (dVarP 3) (dC (.int 0)))) (dPar 2 3 (dCons (dVar 3) (dCons (dOp kMod (dVarP 2) (dVarP 3)) dNil)))) (dRet (dTup (dCons (dOp kDiv (dVarP 0) (dCB k_abs (dCons (dVarP 2) dNil))) (dCons (dOp kDiv (dVarP 1) (dCB k_abs (dCons (dVarP 2) dNil))) dNil)))))))
theorem rd_lowW (ds : List D) (Q E : EQ) (_ : ds.length = 2) (h : g_lowW ds Q E) : tb_lowW (dE Q E) (startD N_lowW ds) := by
  obtain ⟨t, b, rfl, hb, bb, q⟩ := h
  have h0 : b ≠ 0 := by omega
  have hs := shr_ne (t := t) h0
  have hd := div_of hs (shr_bnd h0 bb)
  unfold fr at q
  unfold shr at hs hd q
  rw [if_neg (by omega)] at hs hd q
  unfold tb_lowW dE
  walk_at "go"
  refine ⟨fun m ρ => ∃ a' b' : Int, ρ = [.sh (.int t), .sh (.int b), .sh (.int a'), .sh (.int b')] ∧ Int.gcd a' b' = Int.gcd t b ∧ m = b'.natAbs, ⟨_, t, b, rfl, rfl, rfl⟩, ?_⟩
  rintro m ρ ⟨a', b', rfl, hg, rfl⟩
  walk_at "rd"
  by_cases hb' : b' = 0
  · rw [decide_eq_true hb']
    have e : (if a' < 0 then -a' else a') = (Int.gcd t b : Int) := by rw [abs_nat, ← hg, hb', Int.gcd_zero_right]
    walk_at "go"
    rw [e]
    walk_at "go"
    rw [e]
    walk_at "go"
    exact q
  · rw [decide_eq_false hb']
    walk_at "rd"
    refine ⟨hb', ?_⟩
    walk_at "rd"
    exact ⟨_, fmod_natAbs hb', b', a'.fmod b', rfl, (gcd_step a' b').trans hg, rfl⟩
end Dl

/-! The D-layer, part 20: the laws' own sum along a point. -/
namespace Dl
open PySem PySem.Spec
open PyProof.Rows L2
local macro_rules | `(tactic| walk_at "rd") => `(tactic| ((conv => whnf); (try dsimp only [startD, wipeD, q_map_cons, q_map_nil, q_app_cons, q_app_nil, q_len_cons, q_len_nil, q_rep_0, q_rep_s, q_get_0, q_get_s, q_set_0, q_set_s, ifP_t, ifP_f, Nat.reduceAdd, Nat.reduceSub, Int.reduceToNat, Int.reducePow, Int.reduceAdd, Int.reduceMul])))
local macro_rules | `(tactic| walk_at "sd") => `(tactic| first | with_reducible assumption | omega | with_reducible rfl | decide | exact few_of (by decide) | exact divOk_small (by decide) (by decide +kernel) | exact mulOk_r (by omega) (by omega) | exact mulOk_l (by omega) (by omega) | exact few_of (by simp only [List.length_append, List.length_map, List.length_cons, List.length_nil, tab_len, List.length_replicate]; omega))
local macro_rules | `(tactic| walk_at "go") => `(tactic| ((try walk_at "rd"); (repeat (refine And.intro (by walk_at "sd") ?_; try walk_at "rd"))))
/-- all bottoms, one by one -/
def prodF : List (Int × Int) → Int → Int
  | p :: ps, B => prodF ps (B * p.2)
  | [], B => B
theorem wsF_snd : ∀ (rs : List Int) (ps : List (Int × Int)) (T B : Int), rs.length = ps.length → (wsF rs ps T B).2 = prodF ps B
  | [], [], T, B, _ => rfl
  | [], p :: ps, T, B, h => by cases h
  | r :: rs, [], T, B, h => by cases h
  | r :: rs, p :: ps, T, B, h => by
    unfold wsF prodF
    exact wsF_snd rs ps _ _ (by simpa using h)
theorem prodF_dvd : ∀ (ps : List (Int × Int)) (B : Int), B ∣ prodF ps B ∧ ∀ p ∈ ps, p.2 ∣ prodF ps B
  | [], B => ⟨Int.dvd_refl _, fun p hp => by cases hp⟩
  | p :: ps, B => by
    unfold prodF
    obtain ⟨h1, h2⟩ := prodF_dvd ps (B * p.2)
    refine ⟨Int.dvd_trans (Int.dvd_mul_right ..) h1, fun q hq => ?_⟩
    rcases List.mem_cons.mp hq with rfl | hq
    · exact Int.dvd_trans (Int.dvd_mul_left ..) h1
    · exact h2 q hq
theorem prodF_bnd {m : Nat} : ∀ (ps : List (Int × Int)) (B : Int) (k : Nat), bnd (m * k + 1) B → (∀ p ∈ ps, bnd m p.2) → bnd (m * (k + ps.length) + 1) (prodF ps B)
  | [], B, k, h, _ => h
  | p :: ps, B, k, h, hp => by
    unfold prodF
    have e : m * (k + (p :: ps).length) + 1 = m * (k + 1 + ps.length) + 1 := by rw [List.length_cons, Nat.add_comm ps.length 1, Nat.add_assoc]
    rw [e]
    refine prodF_bnd ps _ (k + 1) (bnd_mono (bnd_mul h (hp p List.mem_cons_self)) ?_) fun q hq => hp q (List.mem_cons_of_mem _ hq)
    rw [Nat.mul_add, Nat.mul_one]
    omega
abbrev g_alongA : DF := fun ds Q _ => ∃ (rs : List Int) (ps : List (Int × Int)) (row : D), ds = [row, ptsD ps] ∧ isRow row rs ∧ rs.length = ps.length ∧ ps.length ≤ 9 ∧ okR 300 rs ∧ okP 300 ps ∧
  Q (fr (wsF rs ps 0 1).1 (wsF rs ps 0 1).2)
abbrev N_alongA : List Str := ["_law_shares", "_law_point", "_law_bottom", "_law_number_here", "_law_top", "_law_k"]
def tb_alongA : DS :=
  (dSq (dSet 2 (dC (.int 1))) (dSq (dFor (dSeq (dVar 1)) (gNm 3) (dSet 2 (dOp kMul (dVarP 2) (dOp kIx (dVarP 3) (dC (.int 1)))))) (dSq (dSet 4 (dC (.int 0))) (dSq (dFor (dRng1 (dCB kLen (dCons (dVarP 1) dNil))) (gNm 5) (dSet 4 (dOp kAdd (dVarP 4) (dOp kMul (dOp kMul (dOp kIx (dVarP 0) (dVarP 5)) (dOp kIx (dOp kIx (dVarP 1) (dVarP 5)) (dC (.int 0)))) (dOp kDiv (dVarP 2) (dOp kIx (dOp kIx (dVarP 1) (dVarP 5)) (dC (.int 1)))))))) (dRet (dCall 2 [] g_lowW (dCons (dVar 4) (dCons (dVar 2) dNil))))))))
theorem prod_loop {d : DE} {a b : Sl} {s4 s5 : Sl} : ∀ (ps : List (Int × Int)) (B : Int) (k : Nat) (s3 : Sl), k + ps.length ≤ 9 → bnd (300 * k + 1) B → okP 300 ps →
    (∀ s3, d.nx [a, b, .sh (.int (prodF ps B)), s3, s4, s5]) → loopD (gNm 3) (dSet 2 (dOp kMul (dVarP 2) (dOp kIx (dVarP 3) (dC (.int 1))))) d (ps.map prD) [a, b, .sh (.int B), s3, s4, s5]
  | [], B, k, s3, hk, hB, hp, h => lp_nil (h s3)
  | p :: ps, B, k, s3, hk, hB, hp, h => by
    rw [List.length_cons] at hk
    obtain ⟨p0, p1, p2⟩ := hp p List.mem_cons_self
    have m1 := mul_of hB p2 (by omega)
    refine lp_cons ?_
    unfold prD
    walk_at "go"
    exact prod_loop ps _ (k + 1) _ (by omega) (bnd_mono (bnd_mul hB p2) (by omega)) (fun q hq => hp q (List.mem_cons_of_mem _ hq)) h
/-- the sum, over the common bottom P -/
def sumA (P : Int) : List Int → List (Int × Int) → Int → Int
  | r :: rs, p :: ps, S => sumA P rs ps (S + r * p.1 * P.fdiv p.2)
  | _, _, S => S
theorem sumA_ws (P : Int) : ∀ (rs : List Int) (ps : List (Int × Int)) (S T B : Int), S * B = T * P → (∀ p ∈ ps, 0 < p.2 ∧ p.2 ∣ P) → sumA P rs ps S * (wsF rs ps T B).2 = (wsF rs ps T B).1 * P
  | [], ps, S, T, B, h, _ => by unfold sumA wsF; exact h
  | r :: rs, [], S, T, B, h, _ => by unfold sumA wsF; exact h
  | r :: rs, p :: ps, S, T, B, h, hp => by
    obtain ⟨h0, c, hc⟩ := hp p List.mem_cons_self
    unfold sumA wsF
    refine sumA_ws P rs ps _ _ _ ?_ fun q hq => hp q (List.mem_cons_of_mem _ hq)
    have e : P.fdiv p.2 = c := by
      conv => lhs; arg 1; rw [hc]
      exact Int.mul_fdiv_cancel_left _ (by omega)
    rw [e, Int.add_mul, Int.add_mul]
    have a1 : S * (B * p.2) = (S * B) * p.2 := by ac_rfl
    have a2 : r * p.1 * c * (B * p.2) = r * p.1 * B * (p.2 * c) := by ac_rfl
    rw [a1, a2, h, ← hc]
    ac_rfl
theorem sum_loop {d : DE} {s3 : Sl} {P : Int} {rs : List Int} {ps : List (Int × Int)} {row : D} (hrow : isRow row rs) (hl : rs.length = ps.length) (h9 : ps.length ≤ 9) (hP : bnd 2701 P) (hr : okR 300 rs) (hp : okP 300 ps) :
    ∀ (t k : Nat) (S : Int) (s5 : Sl), k + t = ps.length → bnd (3301 + k) S →
    (∀ s5, d.nx [.sh row, .sh (ptsD ps), .sh (.int P), s3, .sh (.int (sumA P (rs.drop k) (ps.drop k) S)), s5]) →
    loopD (gNm 5) (dSet 4 (dOp kAdd (dVarP 4) (dOp kMul (dOp kMul (dOp kIx (dVarP 0) (dVarP 5)) (dOp kIx (dOp kIx (dVarP 1) (dVarP 5)) (dC (.int 0)))) (dOp kDiv (dVarP 2) (dOp kIx (dOp kIx (dVarP 1) (dVarP 5)) (dC (.int 1))))))) d (irg k t)
      [.sh row, .sh (ptsD ps), .sh (.int P), s3, .sh (.int S), s5]
  | 0, k, S, s5, hk, hS, h => by
    have := h s5
    rw [List.drop_of_length_le (show rs.length ≤ k by omega), List.drop_of_length_le (show ps.length ≤ k by omega)] at this
    exact lp_r0 this
  | t + 1, k, S, s5, hk, hS, h => by
    have k1 : k < rs.length := by omega
    have k2 : k < ps.length := by omega
    obtain ⟨p0, p1, p2⟩ := hp _ (List.getElem_mem k2)
    have r1 := hr _ (List.getElem_mem k1)
    have i1 : ∀ Q : EQ, kIx row (.int (k : Int)) Q = Q (.int rs[k]) := fun Q => by
      rcases hrow with rfl | rfl
      · show asO Q (atI (rs.map D.int) _) = _
        rw [atI_nn, List.getElem?_map, List.getElem?_eq_getElem k1]
        rfl
      · show asO Q (atI (rs.map D.int) _) = _
        rw [atI_nn, List.getElem?_map, List.getElem?_eq_getElem k1]
        rfl
    have i2 : atI (ps.map prD) (k : Int) = some (pr ps[k].1 ps[k].2) := by
      rw [atI_nn, List.getElem?_map, List.getElem?_eq_getElem k2]
      rfl
    have dv := div_of (Int.ne_of_gt p0) (bnd_mono (k := 8000) p2 (by decide))
    have b0 : bnd 2701 (P.fdiv ps[k].2) := bnd_le (fdiv_le (by omega)) hP
    have b1 := bnd_mul r1 p1
    have m1 := mul_of r1 p1 (by decide)
    have m2 := mul_of b1 b0 (by decide)
    refine lp_rs ?_
    unfold dSet dOp dVarP dC
    walk_at "rd"
    show kIx row (.int (k : Int)) _
    rw [i1]
    walk_at "rd"
    rw [i2]
    walk_at "go"
    rw [i2]
    walk_at "go"
    have := fun s5 => h s5
    rw [List.drop_eq_getElem_cons k1, List.drop_eq_getElem_cons k2] at this
    refine sum_loop hrow hl h9 hP hr hp t (k + 1) _ _ (by omega) ?_ this
    exact bnd_mono (bnd_add hS (bnd_mono (k := 3301 + k) (bnd_mul b1 b0) (by omega))) (by omega)
theorem rd_alongA (ds : List D) (Q E : EQ) (_ : ds.length = 2) (h : g_alongA ds Q E) : tb_alongA (dE Q E) (startD N_alongA ds) := by
  obtain ⟨rs, ps, row, rfl, hrow, hl, h9, hr, hp, q⟩ := h
  have hB : bnd 2701 (prodF ps 1) := bnd_mono (prodF_bnd ps 1 0 (bnd_one (by decide)) fun p hp' => (hp p hp').2.2) (by omega)
  have hd := prodF_dvd ps 1
  have w0 := wsF_pos rs ps 0 1 (by decide) fun p hp' => (hp p hp').1
  have e := sumA_ws (prodF ps 1) rs ps 0 0 1 (by rw [Int.zero_mul, Int.zero_mul]) fun p hp' => ⟨(hp p hp').1, hd.2 p hp'⟩
  rw [wsF_snd rs ps 0 1 hl] at w0 e q
  have e2 := Int.eq_of_mul_eq_mul_right (Int.ne_of_gt w0) e
  unfold tb_alongA dE
  walk_at "go"
  refine prod_loop ps 1 0 _ (by omega) (bnd_one (by decide)) hp fun s3 => ?_
  walk_at "go"
  rw [List.length_map]
  refine ⟨by omega, by omega, ?_⟩
  rw [Int.toNat_natCast]
  refine sum_loop hrow hl h9 hB hr hp ps.length 0 0 _ (by omega) bnd_zero fun s5 => ?_
  rw [List.drop_zero, List.drop_zero, e2]
  walk_at "go"
  exact ⟨_, _, rfl, w0, bnd_mono hB (by decide), q⟩
end Dl

/-! The D-layer, part 21: defs that hand back lists which are the caller's own. -/
namespace Dl
open PySem PySem.Spec
open PyProof.Rows L2
section
variable {X : Cx} {W : WX} {st : Stmt} {rest : List Stmt} {e a b c tg : Expr} {es : List Expr} {t ta tb tc : TD} {ts : TDs} {u v : DS} {pos : Pos}
/-- return x -/
def dRetO (i : Nat) : DS := fun d ρ => owAt ρ i d.rt1
theorem rs_retO (i : Nat) {x : Str} {p : Pos} (hN : X.N[i]? = some x := by rfl) (hv : Vis X.env.scope x := by first | exact Or.inl rfl | exact Or.inr (Or.inl rfl) | exact Or.inr (Or.inr rfl))
    (hd : (x == ("__debug__" : Str)) = false := by decide) (hcd : (x == ("__classdict__" : Str)) = false := by decide) : RS X W (.Return (some (.Name x p)) pos) (dRetO i) := by
  refine ⟨_, ps_ret (pe_var hN hv hd hcd), fun F0 H0 ρ σ F H D d en c q => ?_⟩
  obtain ⟨ds, ho, q⟩ := owAt_inv q
  obtain ⟨p, vs, g1, g2, g3, g4, g5⟩ := en.rl.ow i ds ho
  exact ⟨_, g1, c.rt1 ds p F H en.go ⟨en.new i _ p ho rfl g1, g3, vs, g2, g4, g5⟩ q⟩
/-- return [..] -/
def dRetN1 (t : TDs) : DS := fun d ρ => t ρ d.rt1 (d.ex ρ)
theorem rs_retN1 {tn : TDs} (h : RN X W e tn) : RS X W (.Return (some e) pos) (dRetN1 tn) := by
  obtain ⟨te, h1, h2⟩ := h.run
  exact ⟨_, ps_ret h1, fun F0 H0 ρ σ F H D d en c q => h2 ρ σ F H _ _ _ en.rl (c.ex ρ σ F H en) (fun ds p vs F1 H1 g np hp fp z r q => c.rt1 ds p F1 H1 (en.go.trans g) ⟨en.go.hh.free np, fp, vs, hp, z, r⟩ q) q⟩
/-- return (x, y) -/
def dRet2 (i j : Nat) : DS := fun d ρ => owAt ρ i fun ds => owAt ρ j fun es => d.rt2 ds es
theorem rs_ret2 (i j : Nat) {x y : Str} {k : Nat} {p p' p2 : Pos} (hi : X.N[i]? = some x := by rfl) (hj : X.N[j]? = some y := by rfl) (hij : i ≠ j := by decide)
    (hv : Vis X.env.scope x := by first | exact Or.inl rfl | exact Or.inr (Or.inl rfl) | exact Or.inr (Or.inr rfl)) (hv' : Vis X.env.scope y := by first | exact Or.inl rfl | exact Or.inr (Or.inl rfl) | exact Or.inr (Or.inr rfl))
    (hd : (x == ("__debug__" : Str)) = false := by decide) (hcd : (x == ("__classdict__" : Str)) = false := by decide) (hd' : (y == ("__debug__" : Str)) = false := by decide) (hcd' : (y == ("__classdict__" : Str)) = false := by decide)
    (h1 : starEach [.Name x p, .Name y p'] X.env = (false, eval (.Name x p) X.env) :: starEach [.Name y p'] X.env := by rfl) (h2 : starEach [.Name y p'] X.env = (false, eval (.Name y p') X.env) :: starEach [] X.env := by rfl) :
    RS X W (.Return (some (.Tuple [.Name x p, .Name y p'] k p2)) pos) (dRet2 i j) := by
  refine ⟨_, ps_ret (pe_tup (pa_cons (pe_var hi hv hd hcd) (pa_cons (pe_var hj hv' hd' hcd') pa_nil h2) h1)), fun F0 H0 ρ σ F H D d en c q => ?_⟩
  obtain ⟨ds, ho, q⟩ := owAt_inv q
  obtain ⟨es, ho', q⟩ := owAt_inv q
  obtain ⟨p, vs, g1, g2, g3, g4, g5⟩ := en.rl.ow i ds ho
  obtain ⟨p', vs', g1', g2', g3', g4', g5'⟩ := en.rl.ow j es ho'
  refine ⟨_, g1, _, g1', by show 2 ≤ sizeLine; decide, fun t nt => ?_⟩
  have ne : ∀ {b : Addr} {o : HO}, H b = some o → b ≠ t := fun {b o} hb z => by subst z; rw [nt] at hb; cases hb
  have hp : p ≠ p' := fun z => by
    subst z
    exact hij (en.rl.inj i j _ _ _ ho rfl ho' rfl g1 g1')
  refine c.rt2 ds es t p p' F _ ⟨en.go.ff, en.go.hh.trans (same_upd nt), fun b u z => ?_, en.go.nn⟩ upd_same hp ⟨en.new i _ p ho rfl g1, g3, vs, ?_, g4, g5⟩ ⟨en.new j _ p' ho' rfl g1', g3', vs', ?_, g4', g5'⟩ q
  · have := en.rl.fh b u z
    rw [upd_ne (ne this)]
    exact this
  · rw [upd_ne (ne g2)]; exact g2
  · rw [upd_ne (ne g2')]; exact g2'
end
/-! ### their promises -/
abbrev DF1 := List D → (List D → Prop) → EQ → Prop
abbrev DF2 := List D → (List D → List D → Prop) → EQ → Prop
def spO1 (K : PySem.W.Frag) (n : Nat) (G : DF1) : Sp := fun vs H Q E => ∃ (ds : List D) (F : Hp) (Q1 : List D → Prop) (Ed : EQ), Same F H ∧ Reps K F ds vs ∧ ds.length = n ∧ G ds Q1 Ed ∧
  (∀ ds p F' H', Go F H F' H' → OwL K F' H' H ds p → Q1 ds → Q (.ref p) H') ∧ (∀ x cls dx F' H', Go F H F' H' → XRep K F' H' x cls dx → Ed x → E cls dx H')
def spO2 (K : PySem.W.Frag) (n : Nat) (G : DF2) : Sp := fun vs H Q E => ∃ (ds : List D) (F : Hp) (Q2 : List D → List D → Prop) (Ed : EQ), Same F H ∧ Reps K F ds vs ∧ ds.length = n ∧ G ds Q2 Ed ∧
  (∀ ds es t p q F' H', Go F H F' H' → H' t = some (.tup [.ref p, .ref q]) → p ≠ q → OwL K F' H' H ds p → OwL K F' H' H es q → Q2 ds es → Q (.ref t) H') ∧ (∀ x cls dx F' H', Go F H F' H' → XRep K F' H' x cls dx → Ed x → E cls dx H')
structure FO (P : Program) (w : World) (K : PySem.W.Frag) (mg : Str → Option Value) (base : Heap) (k : Nat) (f : Addr) (n : Nat) (sp : Sp) : Prop where
  ok : ∃ (fd : FuncData) (ps : List Str), FnOk P w K mg base (L2.CX P w) k f fd ps sp ∧ Binds K fd ps []
  kp : PySem.W.keepIn K (.ref f) = true
abbrev FD1 (P : Program) (w : World) (K : PySem.W.Frag) (mg : Str → Option Value) (base : Heap) (k : Nat) (f : Addr) (n : Nat) (dd : List D) (G : DF1) : Prop := FO P w K mg base k f n (spO1 K n G)
abbrev FD2 (P : Program) (w : World) (K : PySem.W.Frag) (mg : Str → Option Value) (base : Heap) (k : Nat) (f : Addr) (n : Nat) (dd : List D) (G : DF2) : Prop := FO P w K mg base k f n (spO2 K n G)
abbrev dE1 (Q : List D → Prop) (E : EQ) : DE := ⟨fun _ => False, fun _ => False, fun _ => False, fun _ => False, fun _ => E, Q, fun _ _ => False⟩
abbrev dE2 (Q : List D → List D → Prop) (E : EQ) : DE := ⟨fun _ => False, fun _ => False, fun _ => False, fun _ => False, fun _ => E, fun _ => False, Q⟩
theorem def_ok1 {P : Program} {w : World} {K : PySem.W.Frag} {mg : Str → Option Value} {base : Heap} {name qual : Str} {st : Stmt} {f : Addr} {N ps : List Str} {k n : Nat} {G : DF1} {tb : DS} {oc dV kV doc pm cdv ct : Value} {od an : Option Addr} {osl : Array (Option Value)}
    (lk : K.lookup f = some ⟨oc, od, .func (PySem.W.fnOf name qual (defArgs st) (defBody st) (defScope st) dV kV doc pm an cdv ct), osl⟩) (hcd : PySem.W.codeIn K cdv qual = true) (S : FnScope N ps (defScope st)) (hn : ps.length = n)
    (body : ∀ (cdv : Value) (A : Around) (outer : List Env) (s : Shared) (H : Hp) (E : XK), Room k (A.deeper (envOfC qual (defScope st) s.heap.objs.size f cdv)) → RSs (cxOf (L2.CX P w) P w K mg base N qual (defScope st) f cdv A outer s H E) (WF E) (defBody st) tb)
    (read : ∀ ds Q E, ds.length = n → G ds Q E → tb (dE1 Q E) (startD N ds)) :
    FnOk P w K mg base (L2.CX P w) (k + 1) f (PySem.W.fnOf name qual (defArgs st) (defBody st) (defScope st) dV kV doc pm an cdv ct) ps (spO1 K n G) := by
  refine fn_of lk hcd S (fun vs H Q E h => ?_) fun A outer s H vs Q E hr h => ?_
  · obtain ⟨ds, F, Qd, Ed, _, r, hl, _⟩ := h
    rw [r.length, hl, hn]
  · obtain ⟨ts, h1, h2⟩ := (body cdv A outer s H E hr).run
    refine ⟨ts, h1, ?_⟩
    obtain ⟨ds, F1, Qd, Ed, sf, r, hl, g, k1, k2⟩ := h
    have rl := start_rl (N := N) sf r
    refine h2 F1 H (startD N ds) _ F1 H _ (dE1 Qd Ed) ⟨rl, .refl sf, fun i s p h o hs => ?_⟩ ⟨fun _ _ _ _ _ q => q.elim, fun _ _ _ _ _ _ q => q.elim, fun _ _ _ _ _ q => q.elim, fun _ _ _ _ _ q => q.elim, fun ρ σ F' H' e x cls dx F2 H2 g r q => k2 x cls dx F2 H2 (e.go.trans g) r q, fun ds p F' H' g o q => k1 ds p F' H' g o q, fun _ _ _ _ _ _ _ _ _ _ _ _ q => q.elim⟩ (read ds Qd Ed hl g)
    exact absurd o (start_own h)
theorem def_ok2 {P : Program} {w : World} {K : PySem.W.Frag} {mg : Str → Option Value} {base : Heap} {name qual : Str} {st : Stmt} {f : Addr} {N ps : List Str} {k n : Nat} {G : DF2} {tb : DS} {oc dV kV doc pm cdv ct : Value} {od an : Option Addr} {osl : Array (Option Value)}
    (lk : K.lookup f = some ⟨oc, od, .func (PySem.W.fnOf name qual (defArgs st) (defBody st) (defScope st) dV kV doc pm an cdv ct), osl⟩) (hcd : PySem.W.codeIn K cdv qual = true) (S : FnScope N ps (defScope st)) (hn : ps.length = n)
    (body : ∀ (cdv : Value) (A : Around) (outer : List Env) (s : Shared) (H : Hp) (E : XK), Room k (A.deeper (envOfC qual (defScope st) s.heap.objs.size f cdv)) → RSs (cxOf (L2.CX P w) P w K mg base N qual (defScope st) f cdv A outer s H E) (WF E) (defBody st) tb)
    (read : ∀ ds Q E, ds.length = n → G ds Q E → tb (dE2 Q E) (startD N ds)) :
    FnOk P w K mg base (L2.CX P w) (k + 1) f (PySem.W.fnOf name qual (defArgs st) (defBody st) (defScope st) dV kV doc pm an cdv ct) ps (spO2 K n G) := by
  refine fn_of lk hcd S (fun vs H Q E h => ?_) fun A outer s H vs Q E hr h => ?_
  · obtain ⟨ds, F, Qd, Ed, _, r, hl, _⟩ := h
    rw [r.length, hl, hn]
  · obtain ⟨ts, h1, h2⟩ := (body cdv A outer s H E hr).run
    refine ⟨ts, h1, ?_⟩
    obtain ⟨ds, F1, Qd, Ed, sf, r, hl, g, k1, k2⟩ := h
    have rl := start_rl (N := N) sf r
    refine h2 F1 H (startD N ds) _ F1 H _ (dE2 Qd Ed) ⟨rl, .refl sf, fun i s p h o hs => ?_⟩ ⟨fun _ _ _ _ _ q => q.elim, fun _ _ _ _ _ _ q => q.elim, fun _ _ _ _ _ q => q.elim, fun _ _ _ _ _ q => q.elim, fun ρ σ F' H' e x cls dx F2 H2 g r q => k2 x cls dx F2 H2 (e.go.trans g) r q, fun _ _ _ _ _ _ q => q.elim, fun ds es t p q F' H' g e1 e2 o1 o2 z => k1 ds es t p q F' H' g e1 e2 o1 o2 z⟩ (read ds Qd Ed hl g)
    exact absurd o (start_own h)
/-! ### their calls -/
section
variable {X : Cx} {W : WX} {e : Expr} {es : List Expr} {ts : TDs} {pos : Pos}
def dCallN (n : Nat) (G : DF1) (ts : TDs) : TDs := fun ρ Q E => ts ρ (fun ds => ds.length = n ∧ G ds Q E) E
theorem rn_call {k n : Nat} {f : Addr} {G : DF1} {x : Str} {p : Pos} (h : FD1 X.prog X.w X.K X.mg X.base k f n [] G) (hr : Room k X.A) (hm : X.mg x = some (.ref f)) (tk : Takes X W) (ha : RA X W (e :: es) ts)
    (hg : Gl X x := by rfl) (hdb : (x == ("__debug__" : Str)) = false := by decide) (he : starEach (e :: es) X.env = (false, eval e X.env) :: starEach es X.env := by rfl) (hpl : (backTo pos (starEach es X.env)).any (·.1) = false := by rfl) :
    RN X W (.Call (.Name x p) (e :: es) [] pos) (dCallN n G ts) := by
  obtain ⟨fd, ps, F, bn⟩ := h.ok
  obtain ⟨ta, h1, h2⟩ := ha.run
  refine ⟨_, pe_callSD F hr hg hm h.kp bn .nil (fun σ => passAt tk σ) h1 hdb he hpl, fun ρ σ F H Qd E Q rl xp kk q => ?_⟩
  refine h2 ρ σ F H _ E _ rl xp (fun ds vs F1 H1 g1 r1 q1 => ?_) q
  rw [List.append_nil]
  exact ⟨ds, F1, Qd, E, g1.fh, r1, q1.1, q1.2, fun ds p F' H' g o qd => by
    obtain ⟨o1, o2, vs, o3, o4, o5⟩ := o
    exact kk ds p vs F' H' (g1.trans g) (g1.hh.free o1) o3 o2 o4 o5 qd, fun x cls dx F' H' g r ex => xp x cls dx F' H' (g1.trans g) r ex⟩
theorem Ent.addOw {K : PySem.W.Frag} {F0 H0 : Hp} {ρ : Env'} {σ : L2.St} {F H : Hp} (e : Ent K F0 H0 ρ σ F H) (i : Nat) {ds : List D} {p : Addr} {vs : List V} (hp : H p = some (.lst vs)) (fp : F p = none) (z : vs.length ≤ sizeLine) (r : Reps K F ds vs) (h0 : H0 p = none)
    (old : ∀ (k : Nat) (s : Sl) (w : Addr), ρ[k]? = some s → s.own = true → σ[k]? = some (some (.ref w)) → w ≠ p) : Ent K F0 H0 (ρ.set i (.ow ds)) (σ.set i (some (.ref p))) F H := by
  have e1 := e
  have lt : ∀ {s : Sl}, (ρ.set i (.ow ds))[i]? = some s → i < ρ.length := fun h => by
    have z := (List.getElem?_eq_some_iff.mp h).1
    rw [List.length_set] at z; exact z
  have at_i : ∀ {s : Sl}, (ρ.set i (.ow ds))[i]? = some s → s = .ow ds ∧ (σ.set i (some (.ref p)))[i]? = some (some (.ref p)) := fun h => by
    have l := lt h
    rw [List.getElem?_set_self l] at h
    exact ⟨(Option.some.inj h).symm, List.getElem?_set_self (by rw [← e.rl.len]; exact l)⟩
  have ne : ∀ {j : Nat}, i ≠ j → (ρ.set i (.ow ds))[j]? = ρ[j]? ∧ (σ.set i (some (.ref p)))[j]? = σ[j]? := fun h => ⟨List.getElem?_set_ne h, List.getElem?_set_ne h⟩
  refine ⟨⟨by rw [List.length_set, List.length_set]; exact e.rl.len, e1.rl.fh, fun j d h => ?_, fun j es h => ?_, fun j C fs h => ?_, fun j kvs h => ?_, fun j k s s' w h1 o1 h2 o2 h3 h4 => ?_⟩, e1.go, fun j s q h o hs => ?_⟩
  · by_cases hj : i = j
    · subst hj; cases (at_i h).1
    · rw [(ne hj).1] at h; rw [(ne hj).2]; exact e1.rl.sh j d h
  · by_cases hj : i = j
    · subst hj
      obtain ⟨q1, q2⟩ := at_i h
      cases q1
      exact ⟨p, vs, q2, hp, fp, z, r⟩
    · rw [(ne hj).1] at h; rw [(ne hj).2]; exact e1.rl.ow j es h
  · by_cases hj : i = j
    · subst hj; cases (at_i h).1
    · rw [(ne hj).1] at h; rw [(ne hj).2]; exact e1.rl.oi j C fs h
  · by_cases hj : i = j
    · subst hj; cases (at_i h).1
    · rw [(ne hj).1] at h; rw [(ne hj).2]; exact e1.rl.od j kvs h
  · by_cases hj : i = j
    · by_cases hk : i = k
      · rw [← hj, hk]
      · subst hj
        rw [(at_i h1).2] at h3; cases h3
        rw [(ne hk).1] at h2; rw [(ne hk).2] at h4
        exact absurd rfl (old _ _ _ h2 o2 h4)
    · by_cases hk : i = k
      · subst hk
        rw [(at_i h2).2] at h4; cases h4
        rw [(ne hj).1] at h1; rw [(ne hj).2] at h3
        exact absurd rfl (old _ _ _ h1 o1 h3)
      · rw [(ne hj).1] at h1; rw [(ne hj).2] at h3; rw [(ne hk).1] at h2; rw [(ne hk).2] at h4
        exact e.rl.inj j k s s' w h1 o1 h2 o2 h3 h4
  · by_cases hj : i = j
    · subst hj
      rw [(at_i h).2] at hs; cases hs
      exact h0
    · rw [(ne hj).1] at h; rw [(ne hj).2] at hs; exact e.new j s q h o hs
/-- x, y = f(..) -/
def dOwn2 (i j n : Nat) (G : DF2) (ts : TDs) : DS := fun d ρ => ts ρ (fun ds => ds.length = n ∧ G ds (fun xs ys => d.nx ((ρ.set i (.ow xs)).set j (.ow ys))) (d.ex ρ)) (d.ex ρ)
theorem rs_own2 (i j : Nat) {x y : Str} {px py pt spos : Pos} {kt : Nat} {k n : Nat} {f : Addr} {G : DF2} {z : Str} {p : Pos} (hN : X.N.Nodup) (h : FD2 X.prog X.w X.K X.mg X.base k f n [] G) (hr : Room k X.A) (hm : X.mg z = some (.ref f)) (tk : Takes X W) (ha : RA X W (e :: es) ts)
    (hi : X.N[i]? = some x := by rfl) (hj : X.N[j]? = some y := by rfl) (hij : i ≠ j := by decide) (hx : Loc X.env.scope x := by first | exact Or.inl rfl | exact Or.inr rfl) (hy : Loc X.env.scope y := by first | exact Or.inl rfl | exact Or.inr rfl)
    (hfx : X.fn x = true ∨ X.env.scope.names.lookup x = some .local := by first | exact .inl rfl | exact .inr rfl) (hfy : X.fn y = true ∨ X.env.scope.names.lookup y = some .local := by first | exact .inl rfl | exact .inr rfl)
    (hg : Gl X z := by rfl) (hdb : (z == ("__debug__" : Str)) = false := by decide) (he : starEach (e :: es) X.env = (false, eval e X.env) :: starEach es X.env := by rfl) (hpl : (backTo pos (starEach es X.env)).any (·.1) = false := by rfl)
    (hc : X.calm = true := by rfl) (hn : (assignEach [.Name x px, .Name y py] X.env).length = 2 := by rfl) (hst : (assignEach [.Name x px, .Name y py] X.env).findIdx? (·.1) = none := by rfl)
    (a1 : (assignEach [.Name x px, .Name y py] X.env).map (·.2) = assign (.Name x px) X.env :: (assignEach [.Name y py] X.env).map (·.2) := by rfl) (a2 : (assignEach [.Name y py] X.env).map (·.2) = assign (.Name y py) X.env :: (assignEach [] X.env).map (·.2) := by rfl)
    (hs : swapsWithSole [.Tuple [.Name x px, .Name y py] kt pt] (.Call (.Name z p) (e :: es) [] pos) spos.line X.env = pure false := by rfl) (hw : swappedStores [.Tuple [.Name x px, .Name y py] kt pt] (.Call (.Name z p) (e :: es) [] pos) X.env = pure none := by rfl)
    (h1 : (assignEach [.Tuple [.Name x px, .Name y py] kt pt] X.env).map (·.2) = [assign (.Tuple [.Name x px, .Name y py] kt pt) X.env] := by rfl) :
    RS X W (.Assign [.Tuple [.Name x px, .Name y py] kt pt] (.Call (.Name z p) (e :: es) [] pos) spos) (dOwn2 i j n G ts) := by
  obtain ⟨fd, ps, F, bn⟩ := h.ok
  obtain ⟨ta, b1, b2⟩ := ha.run
  refine ⟨_, ps_asg (pe_callSD F hr hg hm h.kp bn .nil (fun σ => passAt tk σ) b1 hdb he hpl) (pg_tup hc (pgs_cons (pg_name hN hi hx hfx) (pgs_cons (pg_name hN hj hy hfy) pgs_nil a2) a1) hn hst) hs hw h1, fun F0 H0 ρ σ F H D d en c q => ?_⟩
  refine b2 ρ σ F H _ (d.ex ρ) _ en.rl (c.ex ρ σ F H en) (fun ds vs F1 H1 g1 r1 q1 => ?_) q
  rw [List.append_nil]
  have xp := c.ex ρ σ F H en
  refine ⟨ds, F1, _, d.ex ρ, g1.fh, r1, q1.1, q1.2, fun xs ys t p q F' H' g ht hpq o1 o2 qd => ?_, fun x cls dx F' H' g r ex => xp x cls dx F' H' (g1.trans g) r ex⟩
  obtain ⟨o11, o12, vs1, o13, o14, o15⟩ := o1
  obtain ⟨o21, o22, vs2, o23, o24, o25⟩ := o2
  refine ⟨t, _, rfl, SqT.of ht, rfl, _, _, rfl, _, _, rfl, rfl, ?_⟩
  have gg := g1.trans g
  have e1 := en.setOw gg i (g1.hh.free o11) o13 o12 o14 o15
  -- the second list, new too
  have e2 := e1.addOw j o23 o22 o24 o25 (en.go.hh.free (g1.hh.free o21)) fun k s w hk ho hw' z => by
    subst z
    by_cases hki : i = k
    · subst hki
      have il := (List.getElem?_eq_some_iff.mp hk).1
      rw [List.length_set] at il
      rw [List.getElem?_set_self (by rw [← en.rl.len]; exact il)] at hw'
      cases hw'
      exact hpq rfl
    · rw [List.getElem?_set_ne hki] at hk hw'
      have nq := g1.hh.free o21
      cases s with
      | no => cases ho
      | sh d => cases ho
      | ow es =>
        obtain ⟨p', _, h1, h2, _⟩ := en.rl.ow k es hk
        rw [h1] at hw'; cases hw'; rw [nq] at h2; cases h2
      | oi C fs =>
        obtain ⟨p', _, _, h1, h2, _⟩ := en.rl.oi k C fs hk
        rw [h1] at hw'; cases hw'; rw [nq] at h2; cases h2
      | od kvs =>
        obtain ⟨p', _, h1, h2, _⟩ := en.rl.od k kvs hk
        rw [h1] at hw'; cases hw'; rw [nq] at h2; cases h2
  exact c.nx _ _ F' H' e2 qd
end
end Dl

/-! The D-layer, part 22: lists of one's own, lent for a call. -/
namespace Dl
open PySem PySem.Spec
open PyProof.Rows L2
/-- what a def may know while it is lent the lists at ls -/
def lendF (F H : Hp) (ls : List Addr) : Hp := fun b => match F b with
  | some o => some o
  | none => if b ∈ ls then H b else none
/-- and what is known behind it -/
def backF (F F' : Hp) (ls : List Addr) : Hp := fun b => match F b with
  | some o => some o
  | none => if b ∈ ls then none else F' b
theorem lend_same {F H : Hp} {ls : List Addr} (e : Same F H) : Same F (lendF F H ls) ∧ Same (lendF F H ls) H := by
  refine ⟨fun b o h => ?_, fun b o h => ?_⟩
  · unfold lendF; rw [h]
  · unfold lendF at h
    cases hb : F b with
    | some o' => rw [hb] at h; cases h; exact e b _ hb
    | none =>
      rw [hb] at h
      dsimp only at h
      split at h
      · exact h
      · cases h
theorem lend_more {F H : Hp} {ls : List Addr} {a : Addr} (e : Same F H) : Same (lendF F H ls) (lendF F H (a :: ls)) := fun b o h => by
  unfold lendF at h ⊢
  cases hb : F b with
  | some o' => rw [hb] at h; exact h
  | none =>
    rw [hb] at h
    dsimp only at h ⊢
    split at h
    · rename_i hi
      rw [if_pos (List.mem_cons_of_mem _ hi)]
      exact h
    · cases h
theorem lend_reps {K : PySem.W.Frag} {F H : Hp} (e : Same F H) {ds : List D} {vs : List V} (p : Pks K F H ds vs) : ∃ ls : List Addr, (∀ b ∈ ls, ∃ xs, H b = some (.lst xs)) ∧ Reps K (lendF F H ls) ds vs := by
  induction p with
  | nil => exact ⟨[], (fun b hb => by cases hb), .nil⟩
  | cons p q ih =>
    obtain ⟨ls, h1, h2⟩ := ih
    rcases p with r | ⟨a, xs, ds, rfl, rfl, h3, h4, h5⟩
    · exact ⟨ls, h1, .cons (r.mono (lend_same e).1) h2⟩
    · refine ⟨a :: ls, fun b hb => ?_, .cons (.lst ?_ h4 (h5.mono (lend_same e).1)) (h2.mono (lend_more e))⟩
      · rcases List.mem_cons.mp hb with rfl | hb
        · exact ⟨_, h3⟩
        · exact h1 b hb
      · unfold lendF
        cases hb : F a with
        | some o => exact (e a o hb).symm.trans h3
        | none =>
          dsimp only
          rw [if_pos List.mem_cons_self]
          exact h3
theorem back_go {F H F' H' : Hp} {ls : List Addr} (e : Same F H) (g : Go (lendF F H ls) H F' H') : Go F H (backF F F' ls) H' := by
  have ff : Same F F' := (lend_same e).1.trans g.ff
  refine ⟨fun b o h => by unfold backF; rw [h], g.hh, fun b o h => ?_, fun p h1 h2 => ?_⟩
  · unfold backF at h
    cases hb : F b with
    | some o' => rw [hb] at h; cases h; exact g.hh b _ (e b _ hb)
    | none =>
      rw [hb] at h
      dsimp only at h
      split at h
      · cases h
      · exact g.fh b o h
  · unfold backF
    rw [h1]
    dsimp only
    split
    · rfl
    · rename_i hn
      refine g.nn p ?_ h2
      unfold lendF
      rw [h1]
      dsimp only
      rw [if_neg hn]
mutual
def D.tupy : D → Bool
  | .non => true
  | .bl _ => true
  | .int _ => true
  | .str _ => true
  | .tup ds => D.tupys ds
  | _ => false
def D.tupys : List D → Bool
  | [] => true
  | d :: ds => d.tupy && D.tupys ds
end
theorem back_seq {F H F' : Hp} {ls : List Addr} {a : Addr} {xs : List V} (hl : ∀ b ∈ ls, ∃ xs, H b = some (.lst xs)) (ff : Same (lendF F H ls) F') (h : F' a = some (.tup xs)) : backF F F' ls a = some (.tup xs) := by
  · skip
    have key : backF F F' ls a = F' a ∨ ∃ ys, F' a = some (.lst ys) := by
      unfold backF
      cases hb : F a with
      | some o => exact .inl (by dsimp only; exact ((ff a o (by unfold lendF; rw [hb])).symm))
      | none =>
        dsimp only
        by_cases hv : a ∈ ls
        · obtain ⟨ys, hy⟩ := hl a hv
          exact .inr ⟨ys, ff a _ (by unfold lendF; rw [hb]; dsimp only; rw [if_pos hv]; exact hy)⟩
        · rw [if_neg hv]; exact .inl rfl
    rcases key with k | ⟨ys, k⟩
    · rw [k]; exact h
    · rw [k] at h; cases h
mutual
theorem back_rep {K : PySem.W.Frag} {F H F' : Hp} {ls : List Addr} (hl : ∀ b ∈ ls, ∃ xs, H b = some (.lst xs)) (ff : Same (lendF F H ls) F') : ∀ {d : D} {v : V}, d.tupy = true → Rep K F' d v → Rep K (backF F F' ls) d v
  | _, _, _, .non => .non
  | _, _, _, .bl b => .bl b
  | _, _, _, .int i => .int i
  | _, _, _, .str x => .str x
  | _, _, h, .tup s l r => .tup (back_seq hl ff s) l (back_reps hl ff (by unfold D.tupy at h; exact h) r)
  | _, _, h, .ty _ => by unfold D.tupy at h; cases h
  | _, _, h, .cls _ => by unfold D.tupy at h; cases h
  | _, _, h, .ob _ => by unfold D.tupy at h; cases h
  | _, _, h, .lst .. => by unfold D.tupy at h; cases h
  | _, _, h, .frl .. => by unfold D.tupy at h; cases h
  | _, _, h, .ins .. => by unfold D.tupy at h; cases h
  | _, _, h, .dic .. => by unfold D.tupy at h; cases h
theorem back_reps {K : PySem.W.Frag} {F H F' : Hp} {ls : List Addr} (hl : ∀ b ∈ ls, ∃ xs, H b = some (.lst xs)) (ff : Same (lendF F H ls) F') : ∀ {ds : List D} {vs : List V}, D.tupys ds = true → Reps K F' ds vs → Reps K (backF F F' ls) ds vs
  | _, _, _, .nil => .nil
  | _, _, h, .cons r rs => by
    unfold D.tupys at h
    rw [Bool.and_eq_true] at h
    exact .cons (back_rep hl ff h.1 r) (back_reps hl ff h.2 rs)
end
section
variable {X : Cx} {W : WX} {e : Expr} {es : List Expr} {ts : TDs} {pos : Pos}
/-- a call that is lent lists of one's own; it hands back ints, texts, tuples -/
def dCallP (n : Nat) (G : DF) (ts : TDs) : TD := fun ρ Q E => ts ρ (fun ds => ds.length = n ∧ G ds (fun d => d.tupy = true ∧ Q d) (fun _ => False)) E
theorem re_callP {k n : Nat} {f : Addr} {G : DF} {x : Str} {p : Pos} (h : FD X.prog X.w X.K X.mg X.base k f n [] G) (hr : Room k X.A) (hm : X.mg x = some (.ref f)) (tk : Takes X W) (ha : RPA X W (e :: es) ts)
    (hg : Gl X x := by rfl) (hdb : (x == ("__debug__" : Str)) = false := by decide) (he : starEach (e :: es) X.env = (false, eval e X.env) :: starEach es X.env := by rfl) (hpl : (backTo pos (starEach es X.env)).any (·.1) = false := by rfl) :
    RE X W (.Call (.Name x p) (e :: es) [] pos) (dCallP n G ts) := by
  obtain ⟨fd, ps, dvs, dsv, F, bn, vl, hd⟩ := h.ok
  have hd0 : dvs = [] := by cases hd (fun _ => none); rfl
  subst hd0
  obtain ⟨ta, h1, h2⟩ := ha.run
  refine ⟨_, pe_callSD F hr hg hm h.kp bn vl (fun σ => passAt tk σ) h1 hdb he hpl, fun ρ σ F H Qd E Q rl xp kk q => ?_⟩
  refine h2 ρ σ F H _ E _ rl xp (fun ds vs F1 H1 g1 p1 q1 => ?_) q
  obtain ⟨ls, l1, l2⟩ := lend_reps g1.fh p1
  rw [List.append_nil]
  refine ⟨ds, lendF F1 H1 ls, _, _, (lend_same g1.fh).2, l2, q1.1, q1.2, fun d v F' H' g r qd => ?_, fun _ _ _ _ _ _ _ z => z.elim⟩
  exact kk d v _ H' (g1.trans (back_go g1.fh g)) (back_rep l1 g.ff qd.1 r) qd.2
/-- the same, and it hands back a list of the caller's own -/
def dCallNP (n : Nat) (G : DF1) (ts : TDs) : TDs := fun ρ Q E => ts ρ (fun ds => ds.length = n ∧ G ds (fun es => D.tupys es = true ∧ Q es) (fun _ => False)) E
theorem rn_callP {k n : Nat} {f : Addr} {G : DF1} {x : Str} {p : Pos} (h : FD1 X.prog X.w X.K X.mg X.base k f n [] G) (hr : Room k X.A) (hm : X.mg x = some (.ref f)) (tk : Takes X W) (ha : RPA X W (e :: es) ts)
    (hg : Gl X x := by rfl) (hdb : (x == ("__debug__" : Str)) = false := by decide) (he : starEach (e :: es) X.env = (false, eval e X.env) :: starEach es X.env := by rfl) (hpl : (backTo pos (starEach es X.env)).any (·.1) = false := by rfl) :
    RN X W (.Call (.Name x p) (e :: es) [] pos) (dCallNP n G ts) := by
  obtain ⟨fd, ps, F, bn⟩ := h.ok
  obtain ⟨ta, h1, h2⟩ := ha.run
  refine ⟨_, pe_callSD F hr hg hm h.kp bn .nil (fun σ => passAt tk σ) h1 hdb he hpl, fun ρ σ F H Qd E Q rl xp kk q => ?_⟩
  refine h2 ρ σ F H _ E _ rl xp (fun ds vs F1 H1 g1 p1 q1 => ?_) q
  obtain ⟨ls, l1, l2⟩ := lend_reps g1.fh p1
  rw [List.append_nil]
  refine ⟨ds, lendF F1 H1 ls, _, _, (lend_same g1.fh).2, l2, q1.1, q1.2, fun es p F' H' g o qd => ?_, fun _ _ _ _ _ _ _ z => z.elim⟩
  obtain ⟨o1, o2, vs', o3, o4, o5⟩ := o
  refine kk es p vs' _ H' (g1.trans (back_go g1.fh g)) (g1.hh.free o1) o3 ?_ o4 (back_reps l1 g.ff qd.1 o5) qd.2
  unfold backF
  rw [g1.fh.free o1]
  dsimp only
  split
  · rfl
  · exact o2
end
end Dl

/-! The D-layer, part 23: a + b as a list of one's own; tuples of ints compared; rows added. -/
namespace Dl
open PySem PySem.Spec
open PyProof.Rows L2
section
variable {X : Cx} {W : WX}
def kAddN : D → D → (List D → Prop) → Prop := fun x y Q => match x, y with
  | .lst a, .lst b => few (a ++ b) ∧ Q (a ++ b)
  | _, _ => False
def dAddN (ta tb : TD) : TDs := fun ρ Q E => ta ρ (fun x => tb ρ (fun y => kAddN x y Q) E) E
theorem rn_addL {a b : Expr} {ta tb : TD} {pos : Pos} (ha : RP X W a ta) (hb : RP X W b tb) : RN X W (.BinOp a .Add b pos) (dAddN ta tb) := by
  obtain ⟨te1, a1, a2⟩ := ha.run
  obtain ⟨te2, b1, b2⟩ := hb.run
  refine ⟨_, pe_op op_cat a1 b1, fun ρ σ F H Qd E Q rl xp kk q => a2 ρ σ F H _ E _ rl xp (fun x vx F1 H1 g1 px q1 => b2 ρ σ F1 H1 _ E _ (rl.go g1) (xp.go g1) (fun y vy F2 H2 g2 py q2 => ?_) q1) q⟩
  cases x <;> first | exact False.elim q2 | skip
  cases y <;> first | exact False.elim q2 | skip
  obtain ⟨p, vs, rfl, h1, l1, r1⟩ := (px.go g2).lst g2.fh
  obtain ⟨p', vs', rfl, h1', l1', r1'⟩ := py.lst g2.fh
  have rr := r1.append r1'
  have zz := few_line rr q2.1
  refine ⟨p, p', vs, vs', rfl, rfl, h1, h1', by rw [← List.length_append]; exact zz, fun l nl => ?_⟩
  exact kk _ l _ F2 _ ((g1.trans g2).trans (go_new g2.fh nl)) (g1.hh.free (g2.hh.free nl)) upd_same (g2.fh.free nl) zz rr q2.2
end
theorem eqv_ints : ∀ xs ys : List Int, PyData.eqvAll (D.pys (xs.map .int)) (D.pys (ys.map .int)) = decide (xs = ys)
  | [], [] => by unfold D.pys PyData.eqvAll; rfl
  | [], y :: ys => by unfold D.pys PyData.eqvAll; rfl
  | x :: xs, [] => by unfold D.pys PyData.eqvAll; rfl
  | x :: xs, y :: ys => by
    rw [List.map_cons, List.map_cons]
    unfold D.pys PyData.eqvAll
    rw [eqv_ints xs ys]
    unfold D.py PyData.eqv
    by_cases h : x = y
    · subst h
      by_cases h2 : xs = ys
      · subst h2; simp
      · simp [h2]
    · simp [h]
theorem eqv_tup (xs ys : List Int) : PyData.eqv (D.tup (xs.map .int)).py (D.tup (ys.map .int)).py = decide (xs = ys) := by
  unfold D.py PyData.eqv
  exact eqv_ints xs ys
theorem eqv_lst (xs ys : List Int) : PyData.eqv (D.lst (xs.map .int)).py (D.lst (ys.map .int)).py = decide (xs = ys) := by
  unfold D.py PyData.eqv
  exact eqv_ints xs ys
end Dl

/-! The D-layer, part 24: x[i] = [..]; x[i][j] = e, the inner list new. -/
namespace Dl
open PySem PySem.Spec
open PyProof.Rows L2
/-- the list at slot i has changed, what else stood stands -/
theorem Ent.rebase {K : PySem.W.Frag} {F0 H0 : Hp} {ρ : Env'} {σ : L2.St} {F H F' H' : Hp} (e : Ent K F0 H0 ρ σ F H) {i : Nat} {ds es : List D} {p : Addr} {ws : List V} (hi : ρ[i]? = some (.ow ds)) (hs : σ[i]? = some (some (.ref p)))
    (ff : Same F F') (fh : Same F' H') (fp : F' p = none) (keep : ∀ b u, H b = some u → b ≠ p → H' b = some u ∧ (F b = none → F' b = none)) (hp : H' p = some (.lst ws)) (z : ws.length ≤ sizeLine) (r : Reps K F' es ws) :
    Ent K F0 H0 (ρ.set i (.ow es)) σ F' H' := by
  have h0 := e.new i _ p hi rfl hs
  have il := (List.getElem?_eq_some_iff.mp hi).1
  have at_i : ∀ {s : Sl}, (ρ.set i (.ow es))[i]? = some s → s = .ow es := fun h => by
    rw [List.getElem?_set_self il] at h; exact (Option.some.inj h).symm
  have ne : ∀ {j : Nat}, i ≠ j → (ρ.set i (.ow es))[j]? = ρ[j]? := fun h => List.getElem?_set_ne h
  have np : ∀ {j : Nat} {s : Sl} {q : Addr}, i ≠ j → ρ[j]? = some s → s.own = true → σ[j]? = some (some (.ref q)) → q ≠ p := fun {j s q} hj h o hq z => by
    subst z
    exact hj (e.rl.inj i j _ s _ hi rfl h o hs hq)
  refine ⟨⟨by rw [List.length_set]; exact e.rl.len, fh, fun j d h => ?_, fun j fs h => ?_, fun j C fs h => ?_, fun j kvs h => ?_, fun j k s s' w g1 o1 g2 o2 g3 g4 => ?_⟩, ⟨e.go.ff.trans ff, fun b u hb => ?_, fh, fun b h1 h2 => ?_⟩, fun j s q h o hq => ?_⟩
  · by_cases hj : i = j
    · subst hj; cases at_i h
    · rw [ne hj] at h
      obtain ⟨v, g1, g2⟩ := e.rl.sh j d h
      exact ⟨v, g1, g2.mono ff⟩
  · by_cases hj : i = j
    · subst hj
      cases at_i h
      exact ⟨p, ws, hs, hp, fp, z, r⟩
    · rw [ne hj] at h
      obtain ⟨q, us, g1, g2, g3, g4, g5⟩ := e.rl.ow j fs h
      obtain ⟨k1, k2⟩ := keep q _ g2 (np hj h rfl g1)
      exact ⟨q, us, g1, k1, k2 g3, g4, g5.mono ff⟩
  · by_cases hj : i = j
    · subst hj; cases at_i h
    · rw [ne hj] at h
      obtain ⟨q, dx, us, g1, g2, g3, g5, g6⟩ := e.rl.oi j C fs h
      obtain ⟨k1, k2⟩ := keep q _ g2 (np hj h rfl g1)
      exact ⟨q, dx, us, g1, k1, k2 g3, g5.mono ff, g6⟩
  · by_cases hj : i = j
    · subst hj; cases at_i h
    · rw [ne hj] at h
      obtain ⟨q, us, g1, g2, g3, g5⟩ := e.rl.od j kvs h
      obtain ⟨k1, k2⟩ := keep q _ g2 (np hj h rfl g1)
      exact ⟨q, us, g1, k1, k2 g3, g5.mono ff⟩
  · have low : ∀ {j : Nat} {s : Sl}, (ρ.set i (.ow es))[j]? = some s → s.own = true → ∃ s', ρ[j]? = some s' ∧ s'.own = true := fun {j s} h o => by
      by_cases hj : i = j
      · subst hj; exact ⟨_, hi, rfl⟩
      · rw [ne hj] at h; exact ⟨s, h, o⟩
    obtain ⟨s1, q1, q2⟩ := low g1 o1
    obtain ⟨s2, q3, q4⟩ := low g2 o2
    exact e.rl.inj j k s1 s2 w q1 q2 q3 q4 g3 g4
  · exact (keep b u (e.go.hh _ _ hb) (fun z => by subst z; rw [h0] at hb; cases hb)).1
  · have hbp : b ≠ p := fun z => h2 (z ▸ h0)
    cases hb : H0 b with
    | none => exact absurd hb h2
    | some u => exact (keep b u (e.go.hh _ _ hb) hbp).2 (e.go.nn b h1 h2)
  · by_cases hj : i = j
    · subst hj; rw [hs] at hq; cases hq; exact h0
    · rw [ne hj] at h; exact e.new j s q h o hq
section
variable {X : Cx} {W : WX} {rest : List Stmt} {e a1 a2 a3 c : Expr} {t1 t2 t3 te : TD} {tn : TDs} {u : DS}
/-- x[a1] = [..]; x[a2][a3] = e -/
def dPut2 (i : Nat) (tn : TDs) (t1 te t2 t3 : TD) (u : DS) : DS := fun d ρ => tn ρ (fun es => owAt ρ i fun ds => t1 ρ (asI fun k => asO (fun j =>
    te (ρ.set i (.ow (ds.set j (.lst es)))) (asI fun y => t2 (ρ.set i (.ow (ds.set j (.lst es)))) (asI fun k2 => ixN ds.length k2 = some j ∧ t3 (ρ.set i (.ow (ds.set j (.lst es)))) (asI fun k3 => asO (fun j3 =>
      u d (ρ.set i (.ow (ds.set j (.lst (es.set j3 (.int y))))))) (ixN es.length k3)) (fun _ => False)) (fun _ => False)) (fun _ => False)) (ixN ds.length k)) (d.ex ρ)) (d.ex ρ)
theorem xpF {K : PySem.W.Frag} {W : WX} {σ : L2.St} {F H : Hp} : XP K W σ F H (fun _ => False) := fun _ _ _ _ _ _ _ h => h.elim
theorem rss_put2 (i : Nat) {x : Str} {p1 s1 pos p2 s2 s3 pos2 : Pos} (hn : RN X W c tn) (h1 : RP X W a1 t1) (he : RE X W e te) (h2 : RP X W a2 t2) (h3 : RP X W a3 t3) (hr : RSs X W rest u) (hN : X.N[i]? = some x := by rfl)
    (hv : Vis X.env.scope x := by first | exact Or.inl rfl | exact Or.inr (Or.inl rfl) | exact Or.inr (Or.inr rfl))
    (hd : (x == ("__debug__" : Str)) = false := by decide) (hcd : (x == ("__classdict__" : Str)) = false := by decide)
    (hsA : swapsWithSole [.Subscript (.Name x p1) a1 s1] c pos.line X.env = pure false := by rfl) (hwA : swappedStores [.Subscript (.Name x p1) a1 s1] c X.env = pure none := by rfl)
    (h1A : (assignEach [.Subscript (.Name x p1) a1 s1] X.env).map (·.2) = [assign (.Subscript (.Name x p1) a1 s1) X.env] := by rfl)
    (haA : ∀ v, assign (.Subscript (.Name x p1) a1 s1) X.env v = (holding [v] (eval (.Name x p1) X.env) >>= fun ov => holding [v, ov] (eval a1 X.env) >>= fun iv => standAt s1 >>= fun _ => holding [v, ov, iv] (setItem ov iv v) >>= fun _ => release [v, ov, iv] []) := by intro _; rfl)
    (hsB : swapsWithSole [.Subscript (.Subscript (.Name x p2) a2 s2) a3 s3] e pos2.line X.env = pure false := by rfl) (hwB : swappedStores [.Subscript (.Subscript (.Name x p2) a2 s2) a3 s3] e X.env = pure none := by rfl)
    (h1B : (assignEach [.Subscript (.Subscript (.Name x p2) a2 s2) a3 s3] X.env).map (·.2) = [assign (.Subscript (.Subscript (.Name x p2) a2 s2) a3 s3) X.env] := by rfl)
    (haB : ∀ v, assign (.Subscript (.Subscript (.Name x p2) a2 s2) a3 s3) X.env v = (holding [v] (eval (.Subscript (.Name x p2) a2 s2) X.env) >>= fun ov => holding [v, ov] (eval a3 X.env) >>= fun iv => standAt s3 >>= fun _ => holding [v, ov, iv] (setItem ov iv v) >>= fun _ => release [v, ov, iv] []) := by intro _; rfl)
    (hpx : PlainIx a2 := by exact fun _ _ => rfl) :
    RSs X W (.Assign [.Subscript (.Name x p1) a1 s1] c pos :: .Assign [.Subscript (.Subscript (.Name x p2) a2 s2) a3 s3] e pos2 :: rest) (dPut2 i tn t1 te t2 t3 u) := by
  obtain ⟨tcn, c1, c2⟩ := hn.run
  obtain ⟨tk1, k11, k12⟩ := h1.run
  obtain ⟨tee, e1, e2⟩ := he.run
  obtain ⟨tk2, k21, k22⟩ := h2.run
  obtain ⟨tk3, k31, k32⟩ := h3.run
  obtain ⟨tr, r1, r2⟩ := hr.run
  refine ⟨_, pss_cons (ps_asg c1 (pg_sub (pe_var hN hv hd hcd) k11 set_list haA) hsA hwA h1A) (pss_cons (ps_asg e1 (pg_sub (pe_ix ix_list (pe_var hN hv hd hcd) k21 hpx) k31 set_list haB) hsB hwB h1B) r1), fun F0 H0 ρ σ F H D d en cc q => ?_⟩
  refine c2 ρ σ F H _ _ _ en.rl (cc.ex ρ σ F H en) (fun es p vs F1 H1 g np hp fp z r q1 => ?_) q
  obtain ⟨ds, ho, q2⟩ := owAt_inv q1
  have en1 := en.step g
  obtain ⟨o, us, g1, g2, g3, g4, g5⟩ := en1.rl.ow i ds ho
  refine ⟨_, g1, ?_⟩
  refine k12 ρ σ F1 H1 _ _ _ en1.rl (cc.ex ρ σ F1 H1 en1) (fun kd kv F2 H2 gg pk q3 => ?_) q2
  obtain ⟨k, rfl, q4⟩ := asI_inv q3
  obtain ⟨j, hj, q5⟩ := asO_inv q4
  cases pk.int
  obtain ⟨o', us0, g1', g2', g3', g4', g5'⟩ := en.rl.ow i ds ho
  rw [g1] at g1'; cases g1'
  have o1 := g.hh _ _ g2'
  rw [g2] at o1; cases o1
  have o2 := gg.hh _ _ g2
  have p2 := gg.hh _ _ hp
  have pf2 : F2 p = none := gg.nn p fp (by rw [hp]; exact fun z => nomatch z)
  have po : o ≠ p := fun z => by subst z; rw [np] at g2'; cases g2'
  have gF := (g.trans gg).freeze np p2 pf2
  have jl : j < ds.length := by
    unfold ixN at hj
    split at hj
    · split at hj
      · cases hj; omega
      · cases hj
    · split at hj
      · cases hj; omega
      · cases hj
  have zz : (us.set j (.ref p)).length ≤ sizeLine := by rw [List.length_set]; exact g4
  refine ⟨o, us, k, j, rfl, rfl, o2, by rw [g5.length]; exact hj, ?_⟩
  have enF := (en.step gF).putOw (es := ds.set j (.lst es)) ho g1 zz ((g5'.mono gF.ff).set (.lst upd_same z ((r.mono gg.ff).mono (same_upd pf2))) j)
  -- the second row
  refine e2 _ σ _ _ _ _ _ enF.rl xpF (fun y yv F4 H4 gB ry q6 => ?_) q5
  obtain ⟨yi, rfl, q7⟩ := asI_inv q6
  cases ry
  refine ⟨_, g1, ?_⟩
  have en4 := enF.step gB
  refine k22 _ σ _ _ _ _ _ en4.rl xpF (fun kd kv F5 H5 gC pk q8 => ?_) q7
  obtain ⟨k2, rfl, hj2, q9⟩ := asI_inv q8
  cases pk.int
  have o5 : H5 o = some (.lst (us.set j (.ref p))) := gC.hh _ _ (gB.hh _ _ upd_same)
  refine ⟨o, us.set j (.ref p), k2, .ref p, rfl, rfl, SqL.of o5, by unfold atI; rw [List.length_set, g5.length, hj2]; exact List.getElem?_set_self (by rw [g5.length]; exact jl), ?_⟩
  have en5 := en4.step gC
  refine k32 _ σ _ _ _ _ _ en5.rl xpF (fun kd kv F6 H6 gD pk q10 => ?_) q9
  obtain ⟨k3, rfl, q11⟩ := asI_inv q10
  obtain ⟨j3, hj3, q12⟩ := asO_inv q11
  cases pk.int
  have o6 := gD.hh _ _ o5
  have p3 : (upd H2 o (.lst (us.set j (.ref p)))) p = some (.lst vs) := by rw [upd_ne (Ne.symm po)]; exact p2
  have p6 : H6 p = some (.lst vs) := gD.hh _ _ (gC.hh _ _ (gB.hh _ _ p3))
  have f6 : Same (upd F2 p (.lst vs)) F6 := gB.ff.trans (gC.ff.trans gD.ff)
  have pF6 : F6 p = some (.lst vs) := f6 _ _ upd_same
  have oF6 : F6 o = none := by
    have a0 : (upd F2 p (.lst vs)) o = none := by rw [upd_ne po]; exact gg.nn o g3 (by rw [g2]; exact fun z => nomatch z)
    have a1 := gB.nn o a0 (by rw [upd_same]; exact fun z => nomatch z)
    have a2 := gC.nn o a1 (by rw [gB.hh _ _ upd_same]; exact fun z => nomatch z)
    exact gD.nn o a2 (by rw [o5]; exact fun z => nomatch z)
  refine ⟨p, vs, k3, j3, rfl, rfl, p6, by rw [r.length]; exact hj3, ?_⟩
  have fF : ∀ b u, F b = some u → b ≠ p := fun b u hb z => by subst z; have := en.rl.fh _ _ hb; rw [np] at this; cases this
  have ff1 : Same F1 (upd F6 p (.lst (vs.set j3 (.int yi)))) := fun b u hb => by
    have hbp : b ≠ p := fun z => by subst z; rw [fp] at hb; cases hb
    rw [upd_ne hbp]
    refine f6 _ _ ?_
    rw [upd_ne hbp]
    exact gg.ff _ _ hb
  have zv : (vs.set j3 (.int yi)).length ≤ sizeLine := by rw [List.length_set]; exact z
  refine r2 F0 H0 _ σ (upd F6 p (.lst (vs.set j3 (.int yi)))) _ D d (en.rebase (es := ds.set j (.lst (es.set j3 (.int yi)))) ho g1 (g.ff.trans ff1) (fun b u hb => ?_) (by rw [upd_ne po]; exact oF6) (fun b u hb hbo => ?_)
    (by rw [upd_ne po]; exact o6) zz ((g5.mono ff1).set (.lst upd_same zv ((r.mono ff1).set (.int yi) j3)) j)) cc q12
  · by_cases hbp : b = p
    · subst hbp; rw [upd_same] at hb ⊢; exact hb
    · rw [upd_ne hbp] at hb ⊢; exact gD.fh _ _ hb
  · have hbp : b ≠ p := fun z => by subst z; rw [np] at hb; cases hb
    have b2 := gg.hh _ _ (g.hh _ _ hb)
    have b3 : (upd H2 o (.lst (us.set j (.ref p)))) b = some u := by rw [upd_ne hbo]; exact b2
    have b4 := gB.hh _ _ b3
    have b5 := gC.hh _ _ b4
    refine ⟨by rw [upd_ne hbp]; exact gD.hh _ _ b5, fun hF => ?_⟩
    rw [upd_ne hbp]
    have a1 := g.nn b hF (by rw [hb]; exact fun z => nomatch z)
    have a2 := gg.nn b a1 (by rw [g.hh _ _ hb]; exact fun z => nomatch z)
    have a3 : (upd F2 p (.lst vs)) b = none := by rw [upd_ne hbp]; exact a2
    have a4 := gB.nn b a3 (by rw [b3]; exact fun z => nomatch z)
    have a5 := gC.nn b a4 (by rw [b4]; exact fun z => nomatch z)
    exact gD.nn b a5 (by rw [b5]; exact fun z => nomatch z)
end
end Dl

/-! The D-layer, part 25: loops and comprehensions by place; rows brought to steps. -/
namespace Dl
open PySem PySem.Spec
open PyProof.Rows L2
section
variable {g : DG} {tb : DS} {d : DE}
theorem loop_ix (I : Nat → Env' → Prop) (ds : List D) (h0 : ∀ ρ, I ds.length ρ → d.nx ρ)
    (hs : ∀ k x ρ, ds[k]? = some x → I k ρ → ∀ N : Env' → Prop, (∀ ρ', I (k + 1) ρ' → N ρ') → g x ρ fun ρ2 => tb { d with nx := N, ct := N, bk := d.nx } ρ2) {ρ : Env'} (hi : I 0 ρ) : loopD g tb d ds ρ := by
  refine loop_by (fun l ρ => ∃ k, k ≤ ds.length ∧ l = ds.drop k ∧ I k ρ) (fun ρ ⟨k, hk, e, h⟩ => ?_) (fun x xs ρ ⟨k, hk, e, h⟩ N hN => ?_) _ _ ⟨0, Nat.zero_le _, rfl, hi⟩
  · have : k = ds.length := by have := congrArg List.length e; rw [List.length_drop, List.length_nil] at this; omega
    subst this
    exact h0 ρ h
  · have hk' : k < ds.length := by have := congrArg List.length e; rw [List.length_drop, List.length_cons] at this; omega
    rw [List.drop_eq_getElem_cons hk'] at e
    injection e with e1 e2
    exact hs k x ρ (by rw [List.getElem?_eq_getElem hk', e1]) h N fun ρ' h' => hN ρ' ⟨k + 1, hk', e2, h'⟩
end
section
variable {g : DG} {tt : TDb} {te : TD} {ρ : Env'} {Q : List D → Prop}
theorem comp_rel (R : Nat → D → Prop) (ds : List D)
    (h : ∀ k x, ds[k]? = some x → ∀ (K1 : D → Prop) (K0 : Prop), (∀ a, R k a → K1 a) → g x ρ fun ρ2 => tt ρ2 (fun b => ifP b (te ρ2 K1 (fun _ => False)) K0) fun _ => False)
    (q : ∀ as : List D, as.length = ds.length → (∀ k a, as[k]? = some a → R k a) → Q as) : compL g tt te ρ Q ds [] := by
  have go : ∀ (xs acc : List D), (∃ k, k ≤ ds.length ∧ xs = ds.drop k ∧ acc.length = k) → (∀ k a, acc[k]? = some a → R k a) → compR g tt te ρ Q xs acc := by
    intro xs
    induction xs with
    | nil =>
      rintro acc ⟨k, hk, e, hl⟩ ha
      have : k = ds.length := by have := congrArg List.length e; rw [List.length_drop, List.length_nil] at this; omega
      exact q acc (by omega) ha
    | cons x xs ih =>
      rintro acc ⟨k, hk, e, hl⟩ ha
      have hk' : k < ds.length := by have := congrArg List.length e; rw [List.length_drop, List.length_cons] at this; omega
      rw [List.drop_eq_getElem_cons hk'] at e
      injection e with e1 e2
      refine h k x (by rw [List.getElem?_eq_getElem hk', e1]) _ _ fun a hR => ih _ ⟨k + 1, hk', e2, by rw [List.length_append, List.length_singleton, hl]⟩ fun j b hj => ?_
      by_cases hjk : j < acc.length
      · rw [List.getElem?_append_left hjk] at hj; exact ha j b hj
      · rw [List.getElem?_append_right (by omega)] at hj
        have : j = k := by
          cases hz : j - acc.length with
          | zero => omega
          | succ n => rw [hz] at hj; cases hj
        subst this
        rw [hl, Nat.sub_self] at hj
        cases hj
        exact hR
  exact ⟨go ds [] ⟨0, Nat.zero_le _, rfl, rfl⟩ fun k a h => nomatch h⟩
theorem comp_ix (f : Nat → D) (ds : List D)
    (h : ∀ k x, ds[k]? = some x → ∀ (K1 : D → Prop) (K0 : Prop), K1 (f k) → g x ρ fun ρ2 => tt ρ2 (fun b => ifP b (te ρ2 K1 (fun _ => False)) K0) fun _ => False)
    (q : Q ((List.range ds.length).map f)) : compL g tt te ρ Q ds [] := by
  refine comp_rel (fun k a => a = f k) ds (fun k x hx K1 K0 hK => h k x hx K1 K0 (hK _ rfl)) fun as hl ha => ?_
  have : as = (List.range ds.length).map f := by
    refine List.ext_getElem? fun i => ?_
    by_cases hi : i < ds.length
    · rw [List.getElem?_map, List.getElem?_range hi, List.getElem?_eq_getElem (by omega)]
      exact congrArg some (ha i _ (List.getElem?_eq_getElem (by omega)))
    · rw [List.getElem?_eq_none (by omega), List.getElem?_eq_none (by rw [List.length_map, List.length_range]; omega)]
  rw [this]
  exact q
end
theorem rng_get {α : Type} {m : Nat} {f : Nat → α} {k : Nat} (h : k < m) : ((List.range m).map f)[k]? = some (f k) := by
  rw [List.getElem?_map, List.getElem?_range h]; rfl
theorem rng_inv {α : Type} {m : Nat} {f : Nat → α} {k : Nat} {x : α} (h : ((List.range m).map f)[k]? = some x) : k < m ∧ x = f k := by
  have hl := (List.getElem?_eq_some_iff.mp h).1
  rw [List.length_map, List.length_range] at hl
  rw [rng_get hl] at h
  exact ⟨hl, (Option.some.inj h).symm⟩
theorem rng_len {α : Type} {m : Nat} {f : Nat → α} : ((List.range m).map f).length = m := by rw [List.length_map, List.length_range]
theorem rng_set {α : Type} {m : Nat} {f : Nat → α} {k : Nat} {x : α} : ((List.range m).map f).set k x = (List.range m).map fun i => if i = k then x else f i := by
  refine List.ext_getElem? fun i => ?_
  by_cases hi : i < m
  · by_cases e : i = k
    · subst e; rw [List.getElem?_set_self (by rw [rng_len]; exact hi), rng_get hi, if_pos rfl]
    · rw [List.getElem?_set_ne (Ne.symm e), rng_get hi, rng_get hi, if_neg e]
  · rw [List.getElem?_eq_none (by rw [List.length_set, rng_len]; omega), List.getElem?_eq_none (by rw [rng_len]; omega)]
theorem rng_congr {α : Type} {m : Nat} {f g : Nat → α} (h : ∀ k, k < m → f k = g k) : (List.range m).map f = (List.range m).map g := List.map_congr_left fun k hk => h k (List.mem_range.mp hk)
theorem tab_inv {m : Nat} {F : Nat → Int} {k : Nat} {x : D} (h : (tabD m F)[k]? = some x) : k < m ∧ x = .int (F k) := rng_inv h
theorem irg_inv {n k : Nat} {lo : Int} {x : D} (h : (irg lo n)[k]? = some x) : k < n ∧ x = .int (lo + k) := by rw [irg_map] at h; exact rng_inv h
theorem pairs_rng {m : Nat} {f g : Nat → D} : pairs ((List.range m).map f) ((List.range m).map g) = (List.range m).map fun j => .tup [f j, g j] := by
  refine List.ext_getElem? fun i => ?_
  by_cases hi : i < m
  · rw [rng_get hi, pairs_get (rng_get hi) (rng_get hi)]
  · rw [List.getElem?_eq_none (by rw [pairs_len, rng_len, rng_len]; omega), List.getElem?_eq_none (by rw [rng_len]; omega)]
/-! ### rows: what divides all, lowest form, sums -/
def gcdL (r : Nat → Int) : Nat → Int
  | 0 => 0
  | m + 1 => (Int.gcd (r m) (gcdL r m) : Int)
def lowR (m : Nat) (r : Nat → Int) : Nat → Int := fun j => if gcdL r m = 0 then r j else (r j).fdiv (gcdL r m)
def dot (r y : Nat → Int) : Nat → Int
  | 0 => 0
  | n + 1 => dot r y n + r n * y n
theorem gcdL_nn (r : Nat → Int) : ∀ m, 0 ≤ gcdL r m
  | 0 => Int.le_refl _
  | m + 1 => Int.natCast_nonneg _
theorem gcdL_dvd (r : Nat → Int) : ∀ m j, j < m → gcdL r m ∣ r j
  | m + 1, j, h => by
    by_cases e : j = m
    · subst e; exact Int.gcd_dvd_left ..
    · exact Int.dvd_trans (Int.gcd_dvd_right ..) (gcdL_dvd r m j (by omega))
theorem gcdL_zero {r : Nat → Int} {m : Nat} (h : gcdL r m = 0) {j : Nat} (hj : j < m) : r j = 0 := by
  have := gcdL_dvd r m j hj
  rw [h] at this
  exact Int.zero_dvd.mp this
/-- the lowest form, times what divides all, is the row -/
theorem lowR_eq (m : Nat) (r : Nat → Int) : ∃ g : Int, 0 < g ∧ ∀ j, j < m → r j = g * lowR m r j := by
  unfold lowR
  by_cases h : gcdL r m = 0
  · exact ⟨1, by decide, fun j hj => by rw [if_pos h, Int.one_mul]⟩
  · refine ⟨gcdL r m, by have := gcdL_nn r m; omega, fun j hj => ?_⟩
    rw [if_neg h]
    obtain ⟨c, hc⟩ := gcdL_dvd r m j hj
    rw [hc, Int.mul_fdiv_cancel_left _ h]
theorem lowR_bnd {k m : Nat} {r : Nat → Int} (h : ∀ j, bnd k (r j)) (j : Nat) : bnd k (lowR m r j) := by
  unfold lowR
  by_cases e : gcdL r m = 0
  · rw [if_pos e]; exact h j
  · rw [if_neg e]
    exact bnd_le (fdiv_le (by have := gcdL_nn r m; omega)) (h j)
theorem dot_congr {r s y : Nat → Int} : ∀ {n : Nat}, (∀ j, j < n → r j = s j) → dot r y n = dot s y n
  | 0, _ => rfl
  | n + 1, h => by unfold dot; rw [dot_congr (fun j hj => h j (by omega)), h n (by omega)]
theorem dot_congr_r {r y z : Nat → Int} : ∀ {n : Nat}, (∀ j, j < n → y j = z j) → dot r y n = dot r z n
  | 0, _ => rfl
  | n + 1, h => by unfold dot; rw [dot_congr_r (fun j hj => h j (by omega)), h n (by omega)]
theorem dot_mul (a : Int) (r y : Nat → Int) : ∀ n, dot (fun j => a * r j) y n = a * dot r y n
  | 0 => by unfold dot; rw [Int.mul_zero]
  | n + 1 => by unfold dot; rw [dot_mul a r y n]; grind
theorem dot_mul_r (a : Int) (r y : Nat → Int) : ∀ n, dot r (fun j => a * y j) n = a * dot r y n
  | 0 => by unfold dot; rw [Int.mul_zero]
  | n + 1 => by unfold dot; rw [dot_mul_r a r y n]; grind
theorem dot_sub (a b : Int) (r s y : Nat → Int) : ∀ n, dot (fun j => r j * a - s j * b) y n = a * dot r y n - b * dot s y n
  | 0 => by unfold dot; omega
  | n + 1 => by unfold dot; rw [dot_sub a b r s y n]; grind
theorem dot_zero {r y : Nat → Int} : ∀ {n : Nat}, (∀ j, j < n → r j * y j = 0) → dot r y n = 0
  | 0, _ => rfl
  | n + 1, h => by unfold dot; rw [dot_zero (fun j hj => h j (by omega)), h n (by omega)]; rfl
/-- all but some places are nought -/
theorem dot_one {r y : Nat → Int} {p : Nat} : ∀ {n : Nat}, p < n → (∀ j, j < n → j ≠ p → r j * y j = 0) → dot r y n = r p * y p
  | n + 1, hp, h => by
    unfold dot
    by_cases e : p = n
    · subst e; rw [dot_zero (fun j hj => h j (by omega) (by omega)), Int.zero_add]
    · rw [dot_one (n := n) (by omega) (fun j hj hne => h j (by omega) hne), h n (by omega) (fun z => e z.symm), Int.add_zero]
theorem dot_two {r y : Nat → Int} {p q : Nat} (hpq : p ≠ q) : ∀ {n : Nat}, p < n → q < n → (∀ j, j < n → j ≠ p → j ≠ q → r j * y j = 0) → dot r y n = r p * y p + r q * y q
  | n + 1, hp, hq, h => by
    unfold dot
    by_cases e : p = n
    · subst e; rw [dot_one (p := q) (by omega) (fun j hj hne => h j (by omega) (by omega) hne), Int.add_comm]
    · by_cases e2 : q = n
      · subst e2; rw [dot_one (p := p) (by omega) (fun j hj hne => h j (by omega) hne (by omega))]
      · rw [dot_two hpq (n := n) (by omega) (by omega) (fun j hj h1 h2 => h j (by omega) h1 h2), h n (by omega) (fun z => e z.symm) (fun z => e2 z.symm), Int.add_zero]
theorem dot_low (m : Nat) (r y : Nat → Int) : dot (lowR m r) y m = 0 ↔ dot r y m = 0 := by
  obtain ⟨g, g0, h⟩ := lowR_eq m r
  rw [dot_congr (n := m) (s := fun j => g * lowR m r j) (r := r) h, dot_mul]
  constructor
  · intro e; rw [e, Int.mul_zero]
  · intro e; rcases Int.mul_eq_zero.mp e with z | z
    · omega
    · exact z
theorem low_zero {m : Nat} {r : Nat → Int} {j : Nat} (hj : j < m) : lowR m r j = 0 ↔ r j = 0 := by
  obtain ⟨g, g0, h⟩ := lowR_eq m r
  rw [h j hj]
  constructor
  · intro e; rw [e, Int.mul_zero]
  · intro e; rcases Int.mul_eq_zero.mp e with z | z
    · omega
    · exact z
/-! ### elimination -/
abbrev Mat := Nat → Nat → Int
def crR (w : Nat) (r s : Nat → Int) (p : Nat) : Nat → Int := lowR w (fun j => r j * s p - s j * r p)
def fwN (R : Mat) (p : Nat) : Nat → Nat → Option Nat
  | 0, _ => none
  | t + 1, a => if R a p = 0 then fwN R p t (a + 1) else some a
def swR (R : Mat) (a b : Nat) : Mat := fun k => if k = b then R a else if k = a then R b else R k
def elR (w m : Nat) (R : Mat) (a p : Nat) : Mat := fun k => if k < m ∧ k ≠ a ∧ R k p ≠ 0 then crR w (R k) (R a) p else R k
def stepG (w m : Nat) (s : Mat × List Nat) (p : Nat) : Mat × List Nat :=
  match fwN s.1 p (m - s.2.length) s.2.length with
  | none => s
  | some k => (elR w m (swR s.1 s.2.length k) s.2.length p, s.2 ++ [p])
def redG (w m : Nat) (R : Mat) : Nat → Mat × List Nat
  | 0 => (fun k => lowR w (R k), [])
  | c + 1 => stepG w m (redG w m R c) c
theorem fwN_some {R : Mat} {p : Nat} : ∀ {t a k : Nat}, fwN R p t a = some k → a ≤ k ∧ k < a + t ∧ R k p ≠ 0
  | 0, a, k, h => by cases h
  | t + 1, a, k, h => by
    unfold fwN at h
    by_cases e : R a p = 0
    · rw [if_pos e] at h
      obtain ⟨h1, h2, h3⟩ := fwN_some h
      exact ⟨by omega, by omega, h3⟩
    · rw [if_neg e] at h
      cases h
      exact ⟨Nat.le_refl _, by omega, e⟩
theorem fwN_none {R : Mat} {p : Nat} : ∀ {t a : Nat}, fwN R p t a = none → ∀ k, a ≤ k → k < a + t → R k p = 0
  | 0, a, h, k, h1, h2 => by omega
  | t + 1, a, h, k, h1, h2 => by
    unfold fwN at h
    by_cases e : R a p = 0
    · rw [if_pos e] at h
      by_cases ek : k = a
      · subst ek; exact e
      · exact fwN_none h k (by omega) (by omega)
    · rw [if_neg e] at h
      cases h
/-- where a vector is put to nought by all rows -/
def Kn (w m : Nat) (R : Mat) (y : Nat → Int) : Prop := ∀ k, k < m → dot (R k) y w = 0
theorem kn_sw {w m : Nat} {R : Mat} {a b : Nat} (ha : a < m) (hb : b < m) (y : Nat → Int) : Kn w m (swR R a b) y ↔ Kn w m R y := by
  have e : ∀ k, swR R a b k = R (if k = b then a else if k = a then b else k) := fun k => by unfold swR; split; rfl; split <;> rfl
  constructor
  · intro h k hk
    by_cases k1 : k = a
    · have := h b hb; rw [e, if_pos rfl] at this; rw [k1]; exact this
    · by_cases k2 : k = b
      · have := h a ha
        rw [e] at this
        by_cases z : a = b
        · subst z; exact absurd k2 k1
        · rw [if_neg z, if_pos rfl] at this; rw [k2]; exact this
      · have := h k hk; rw [e, if_neg k2, if_neg k1] at this; exact this
  · intro h k hk
    rw [e]
    refine h _ ?_
    split
    · exact ha
    · split
      · exact hb
      · exact hk
theorem kn_el {w m : Nat} {R : Mat} {a p : Nat} (ha : a < m) (hp : R a p ≠ 0) (y : Nat → Int) : Kn w m (elR w m R a p) y ↔ Kn w m R y := by
  have key : ∀ k, dot (R a) y w = 0 → (dot (crR w (R k) (R a) p) y w = 0 ↔ dot (R k) y w = 0) := fun k h0 => by
    unfold crR
    rw [dot_low, dot_sub, h0, Int.mul_zero, Int.sub_zero]
    constructor
    · intro e; rcases Int.mul_eq_zero.mp e with z | z
      · exact absurd z hp
      · exact z
    · intro e; rw [e, Int.mul_zero]
  have ea : elR w m R a p a = R a := by unfold elR; rw [if_neg (fun z => z.2.1 rfl)]
  constructor
  · intro h k hk
    have h0 := h a ha
    rw [ea] at h0
    by_cases c : k < m ∧ k ≠ a ∧ R k p ≠ 0
    · have := h k hk
      unfold elR at this
      rw [if_pos c] at this
      exact (key k h0).mp this
    · have := h k hk
      unfold elR at this
      rw [if_neg c] at this
      exact this
  · intro h k hk
    unfold elR
    split
    · exact (key k (h a ha)).mpr (h k hk)
    · exact h k hk
/-- what stands after c columns -/
structure Ech (w m c : Nat) (R0 R : Mat) (ps : List Nat) : Prop where
  len : ps.length ≤ m
  lt : ∀ q ∈ ps, q < c
  inc : ps.Pairwise (· < ·)
  piv : ∀ (i q : Nat), ps[i]? = some q → R i q ≠ 0 ∧ ∀ k, k < m → k ≠ i → R k q = 0
  out : ∀ q, q < c → q ∉ ps → ∀ k, ps.length ≤ k → k < m → R k q = 0
  kn : ∀ y, Kn w m R y ↔ Kn w m R0 y
def eb (b : Nat) : Nat → Nat
  | 0 => b
  | n + 1 => 2 * eb b n + 1
theorem eb_mono {b : Nat} : ∀ {n k : Nat}, n ≤ k → eb b n ≤ eb b k
  | n, 0, h => by cases Nat.le_zero.mp h; exact Nat.le_refl _
  | n, k + 1, h => by
    by_cases e : n = k + 1
    · subst e; exact Nat.le_refl _
    · have := eb_mono (b := b) (n := n) (k := k) (by omega)
      show _ ≤ 2 * eb b k + 1
      omega
theorem bnd_sub' {k : Nat} {x y : Int} (h1 : bnd k x) (h2 : bnd k y) : bnd (k + 1) (x - y) := by
  unfold bnd at *
  rw [Nat.pow_succ]
  omega
theorem crR_bnd {k w : Nat} {r s : Nat → Int} {p : Nat} (h1 : ∀ j, bnd k (r j)) (h2 : ∀ j, bnd k (s j)) (j : Nat) : bnd (2 * k + 1) (crR w r s p j) := by
  unfold crR
  refine lowR_bnd (fun j => ?_) j
  exact bnd_sub' (bnd_mono (bnd_mul (h1 j) (h2 p)) (by omega)) (bnd_mono (bnd_mul (h2 j) (h1 p)) (by omega))
theorem sw_bnd {k : Nat} {R : Mat} {a b : Nat} (h : ∀ i j, bnd k (R i j)) (i j : Nat) : bnd k (swR R a b i j) := by
  unfold swR
  split
  · exact h _ _
  · split <;> exact h _ _
theorem el_bnd {k w m : Nat} {R : Mat} {a p : Nat} (h : ∀ i j, bnd k (R i j)) (i j : Nat) : bnd (2 * k + 1) (elR w m R a p i j) := by
  unfold elR
  split
  · exact crR_bnd (h i) (h a) j
  · exact bnd_mono (h i j) (by omega)
theorem red_len (w m : Nat) (R : Mat) : ∀ c, (redG w m R c).2.length ≤ c
  | 0 => Nat.le_refl _
  | c + 1 => by
    unfold redG stepG
    have := red_len w m R c
    split
    · omega
    · rw [List.length_append, List.length_singleton]; omega
theorem red_bnd {b w m : Nat} {R : Mat} (h : ∀ i j, bnd b (R i j)) : ∀ c i j, bnd (eb b (redG w m R c).2.length) ((redG w m R c).1 i j)
  | 0, i, j => lowR_bnd (h i) j
  | c + 1, i, j => by
    have ih := red_bnd (w := w) (m := m) h c
    unfold redG stepG
    split
    · exact ih i j
    · rw [List.length_append, List.length_singleton]
      exact el_bnd (sw_bnd ih) i j
theorem red_ech {w m : Nat} {R0 : Mat} : ∀ {c : Nat}, c ≤ w → Ech w m c R0 (redG w m R0 c).1 (redG w m R0 c).2
  | 0, _ => ⟨Nat.zero_le _, (fun q h => nomatch h), List.Pairwise.nil, (fun i q h => nomatch h), (fun q h => absurd h (Nat.not_lt_zero q)), fun y =>
      ⟨fun h k hk => (dot_low w _ y).mp (h k hk), fun h k hk => (dot_low w _ y).mpr (h k hk)⟩⟩
  | c + 1, hc => by
    have ih := red_ech (w := w) (m := m) (R0 := R0) (c := c) (by omega)
    unfold redG stepG
    generalize redG w m R0 c = s at ih ⊢
    obtain ⟨R, ps⟩ := s
    dsimp only at ih ⊢
    cases hf : fwN R c (m - ps.length) ps.length with
    | none =>
      dsimp only
      refine ⟨ih.len, fun q h => Nat.lt_succ_of_lt (ih.lt q h), ih.inc, ih.piv, fun q hq hn k h1 h2 => ?_, ih.kn⟩
      by_cases e : q = c
      · subst e; exact fwN_none hf k h1 (by have := ih.len; omega)
      · exact ih.out q (by omega) hn k h1 h2
    | some k0 =>
      dsimp only
      obtain ⟨f1, f2, f3⟩ := fwN_some hf
      have hk0 : k0 < m := by have := ih.len; omega
      have ha : ps.length < m := by omega
      generalize hS : swR R ps.length k0 = S
      have sa : S ps.length = R k0 := by
        rw [← hS]; unfold swR
        by_cases e : ps.length = k0
        · rw [if_pos e, e]
        · rw [if_neg e, if_pos rfl]
      have so : ∀ k, k < ps.length → S k = R k := fun k hk => by rw [← hS]; unfold swR; rw [if_neg (by omega), if_neg (by omega)]
      have sg : ∀ k, ps.length ≤ k → k < m → ∃ k', ps.length ≤ k' ∧ k' < m ∧ S k = R k' := fun k h1 h2 => by
        rw [← hS]; unfold swR
        by_cases e1 : k = k0
        · rw [if_pos e1]; exact ⟨_, Nat.le_refl _, ha, rfl⟩
        · rw [if_neg e1]
          by_cases e2 : k = ps.length
          · rw [if_pos e2]; exact ⟨_, f1, hk0, rfl⟩
          · rw [if_neg e2]; exact ⟨k, h1, h2, rfl⟩
      have sp : S ps.length c ≠ 0 := by rw [sa]; exact f3
      have ea : elR w m S ps.length c ps.length = S ps.length := by unfold elR; rw [if_neg (fun z => z.2.1 rfl)]
      -- a place where the pivot row has nothing
      have stay : ∀ k q, q < w → S ps.length q = 0 → (elR w m S ps.length c k q = 0 ↔ S k q = 0) := fun k q hq h0 => by
        unfold elR
        split
        · unfold crR
          rw [low_zero hq, h0, Int.zero_mul, Int.sub_zero]
          constructor
          · intro e; rcases Int.mul_eq_zero.mp e with z | z
            · exact z
            · exact absurd z sp
          · intro e; rw [e, Int.zero_mul]
        · exact Iff.rfl
      refine ⟨by rw [List.length_append, List.length_singleton]; omega, fun q h => ?_, ?_, fun i q hi => ?_, fun q hq hn k h1 h2 => ?_, fun y => ?_⟩
      · rcases List.mem_append.mp h with z | z
        · exact Nat.lt_succ_of_lt (ih.lt q z)
        · rw [List.mem_singleton.mp z]; exact Nat.lt_succ_self _
      · rw [List.pairwise_append]
        exact ⟨ih.inc, List.pairwise_singleton .., fun a h b hb => by rw [List.mem_singleton.mp hb]; exact ih.lt a h⟩
      · by_cases hlt : i < ps.length
        · rw [List.getElem?_append_left hlt] at hi
          obtain ⟨p1, p2⟩ := ih.piv i q hi
          have hqc : q < c := ih.lt q (List.mem_of_getElem? hi)
          have h0 : S ps.length q = 0 := by rw [sa]; exact p2 k0 hk0 (by omega)
          refine ⟨fun z => p1 ?_, fun k hk hne => (stay k q (by omega) h0).mpr ?_⟩
          · rw [← so i hlt]; exact (stay i q (by omega) h0).mp z
          · by_cases hk2 : k < ps.length
            · rw [so k hk2]; exact p2 k hk hne
            · obtain ⟨k', a1, a2, a3⟩ := sg k (by omega) hk
              rw [a3]; exact p2 k' a2 (by omega)
        · rw [List.getElem?_append_right (by omega)] at hi
          have hi0 : i = ps.length := by
            cases hz : i - ps.length with
            | zero => omega
            | succ n => rw [hz] at hi; cases hi
          subst hi0
          rw [Nat.sub_self] at hi
          cases hi
          refine ⟨by rw [ea]; exact sp, fun k hk hne => ?_⟩
          unfold elR
          by_cases z : S k c = 0
          · rw [if_neg (fun h => h.2.2 z)]; exact z
          · rw [if_pos ⟨hk, hne, z⟩]
            unfold crR
            rw [low_zero (by omega), Int.mul_comm, Int.sub_self]
      · rw [List.length_append, List.length_singleton] at h1
        have hqc : q ≠ c := fun z => hn (List.mem_append.mpr (.inr (List.mem_singleton.mpr z)))
        have hn' : q ∉ ps := fun z => hn (List.mem_append.mpr (.inl z))
        have h0 : S ps.length q = 0 := by rw [sa]; exact ih.out q (by omega) hn' k0 f1 hk0
        refine (stay k q (by omega) h0).mpr ?_
        obtain ⟨k', a1, a2, a3⟩ := sg k (by omega) h2
        rw [a3]
        exact ih.out q (by omega) hn' k' a1 a2
      · rw [kn_el ha sp, ← hS, kn_sw ha hk0]
        exact ih.kn y
/-! ### what the columns tell -/
theorem inc_lo : ∀ {ps : List Nat} {lo : Nat}, ps.Pairwise (· < ·) → (∀ q ∈ ps, lo ≤ q) → ∀ i q, ps[i]? = some q → lo + i ≤ q
  | [], lo, _, _, i, q, h => nomatch h
  | p :: ps, lo, hp, hl, 0, q, h => by cases h; exact hl p List.mem_cons_self
  | p :: ps, lo, hp, hl, i + 1, q, h => by
    have := inc_lo (lo := lo + 1) (List.pairwise_cons.mp hp).2 (fun q hq => by have := (List.pairwise_cons.mp hp).1 q hq; have := hl p List.mem_cons_self; omega) i q h
    omega
theorem inc_hi {n : Nat} : ∀ {ps : List Nat}, ps.Pairwise (· < ·) → (∀ q ∈ ps, q < n) → ∀ i q, ps[i]? = some q → q + (ps.length - i) ≤ n
  | [], _, _, i, q, h => nomatch h
  | p :: ps, hp, hl, 0, q, h => by
    cases h
    rw [List.length_cons]
    cases ps with
    | nil => have := hl p List.mem_cons_self; show p + 1 ≤ n; omega
    | cons r rs =>
      have h1 := inc_hi (List.pairwise_cons.mp hp).2 (fun q hq => hl q (List.mem_cons_of_mem _ hq)) 0 r rfl
      have h2 := (List.pairwise_cons.mp hp).1 r List.mem_cons_self
      omega
  | p :: ps, hp, hl, i + 1, q, h => by
    have := inc_hi (List.pairwise_cons.mp hp).2 (fun q hq => hl q (List.mem_cons_of_mem _ hq)) i q h
    rw [List.length_cons]
    omega
theorem inc_len {n : Nat} {ps : List Nat} (h1 : ps.Pairwise (· < ·)) (h2 : ∀ q ∈ ps, q < n) : ps.length ≤ n := by
  cases ps with
  | nil => exact Nat.zero_le _
  | cons p ps => have := inc_hi h1 h2 0 p rfl; omega
theorem inc_full {n : Nat} {ps : List Nat} (h1 : ps.Pairwise (· < ·)) (h2 : ∀ q ∈ ps, q < n) (h3 : ps.length = n) : ps = List.range n := by
  refine List.ext_getElem? fun i => ?_
  by_cases hi : i < n
  · rw [List.getElem?_range hi]
    cases hq : ps[i]? with
    | none => rw [List.getElem?_eq_none_iff] at hq; omega
    | some q =>
      have a := inc_lo (lo := 0) h1 (fun _ _ => Nat.zero_le _) i q hq
      have b := inc_hi h1 h2 i q hq
      congr 1
      omega
  · rw [List.getElem?_eq_none (by omega), List.getElem?_eq_none (by rw [List.length_range]; omega)]
theorem inc_gap {n : Nat} {ps : List Nat} (h1 : ps.Pairwise (· < ·)) (h2 : ∀ q ∈ ps, q < n) (h3 : ps.length < n) : ∃ q, q < n ∧ q ∉ ps := by
  refine Classical.byContradiction fun h => ?_
  have h : ∀ q, q < n → q ∈ ps := fun q hq => Classical.byContradiction fun z => h ⟨q, hq, z⟩
  have key : ∀ i, i < ps.length → ps[i]? = some i := fun i => by
    induction i using Nat.strongRecOn with
    | _ i ih =>
      intro hi
      obtain ⟨k, hk⟩ := List.getElem?_of_mem (h i (by omega))
      have hkl := (List.getElem?_eq_some_iff.mp hk).1
      have := inc_lo (lo := 0) h1 (fun _ _ => Nat.zero_le _) k i hk
      by_cases e : k = i
      · rw [e] at hk; exact hk
      · have := ih k (by omega) hkl
        rw [hk] at this
        cases this
        exact absurd rfl e
  obtain ⟨k, hk⟩ := List.getElem?_of_mem (h ps.length h3)
  have hkl := (List.getElem?_eq_some_iff.mp hk).1
  have := key k hkl
  rw [hk] at this
  cases this
  exact absurd hkl (Nat.lt_irrefl _)
/-- the product of the numbers at the places -/
def pivP (R : Mat) : List Nat → Nat → Int
  | [], _ => 1
  | q :: ps, i => R i q * pivP R ps (i + 1)
theorem pivP_ne {R : Mat} : ∀ {ps : List Nat} {i : Nat}, (∀ (k q : Nat), ps[k]? = some q → R (i + k) q ≠ 0) → pivP R ps i ≠ 0
  | [], i, h => by unfold pivP; decide
  | q :: ps, i, h => by
    unfold pivP
    refine Int.mul_ne_zero (h 0 q rfl) (pivP_ne fun k q hk => ?_)
    have := h (k + 1) q hk
    rw [show i + 1 + k = i + (k + 1) by omega]
    exact this
theorem pivP_dvd {R : Mat} : ∀ {ps : List Nat} {i k q : Nat}, ps[k]? = some q → R (i + k) q ∣ pivP R ps i
  | q :: ps, i, 0, _, h => by cases h; unfold pivP; exact Int.dvd_mul_right ..
  | p :: ps, i, k + 1, q, h => by
    unfold pivP
    have := pivP_dvd (R := R) (ps := ps) (i := i + 1) (k := k) (q := q) h
    rw [show i + 1 + k = i + (k + 1) by omega] at this
    exact Int.dvd_trans this (Int.dvd_mul_left ..)
theorem idx_of {ps : List Nat} (hn : ps.Nodup) {i q : Nat} (h : ps[i]? = some q) : ps.idxOf q = i := by
  obtain ⟨hl, rfl⟩ := List.getElem?_eq_some_iff.mp h
  exact List.Nodup.idxOf_getElem hn i hl
/-- a way that a free column leaves -/
def freeY (R : Mat) (ps : List Nat) (q : Nat) : Nat → Int := fun j => if j = q then pivP R ps 0 else if j ∈ ps then -(R (ps.idxOf j) q * (pivP R ps 0).tdiv (R (ps.idxOf j) j)) else 0
theorem inc_nodup {ps : List Nat} (h : ps.Pairwise (· < ·)) : ps.Nodup := h.imp (fun h => Nat.ne_of_lt h)
theorem free_kn {w m c : Nat} {R0 R : Mat} {ps : List Nat} (e : Ech w m c R0 R ps) (hc : c ≤ w) {q : Nat} (hq : q < c) (hn : q ∉ ps) : Kn w m R (freeY R ps q) := fun k hk => by
  by_cases hlt : k < ps.length
  · obtain ⟨p, hp⟩ : ∃ p, ps[k]? = some p := ⟨ps[k], List.getElem?_eq_getElem hlt⟩
    have hmem := List.mem_of_getElem? hp
    have hpq : p ≠ q := fun z => hn (z ▸ hmem)
    have hx := idx_of (inc_nodup e.inc) hp
    obtain ⟨v1, v2⟩ := e.piv k p hp
    rw [dot_two hpq (n := w) (Nat.lt_of_lt_of_le (e.lt p hmem) hc) (by omega) fun j hj h1 h2 => ?_]
    · unfold freeY
      rw [if_pos rfl, if_neg hpq, if_pos hmem, hx]
      obtain ⟨c', hc'⟩ : R k p ∣ pivP R ps 0 := by
        have := pivP_dvd (R := R) (i := 0) hp
        rw [Nat.zero_add] at this
        exact this
      rw [hc', Int.mul_tdiv_cancel_left _ v1]
      grind
    · unfold freeY
      rw [if_neg h2]
      by_cases hj : j ∈ ps
      · obtain ⟨i, hi⟩ := List.getElem?_of_mem hj
        have : i ≠ k := fun z => by subst z; rw [hp] at hi; cases hi; exact h1 rfl
        rw [(e.piv i j hi).2 k hk (Ne.symm this), Int.zero_mul]
      · rw [if_neg hj, Int.mul_zero]
  · refine dot_zero fun j hj => ?_
    unfold freeY
    by_cases h2 : j = q
    · rw [h2, e.out q hq hn k (by omega) hk, Int.zero_mul]
    · rw [if_neg h2]
      by_cases hj : j ∈ ps
      · obtain ⟨i, hi⟩ := List.getElem?_of_mem hj
        have hil : i < ps.length := (List.getElem?_eq_some_iff.mp hi).1
        rw [(e.piv i j hi).2 k hk (by omega), Int.zero_mul]
      · rw [if_neg hj, Int.mul_zero]
theorem freeY_at {R : Mat} {ps : List Nat} {q : Nat} : freeY R ps q q = pivP R ps 0 := by unfold freeY; rw [if_pos rfl]
theorem piv_ne {w m c : Nat} {R0 R : Mat} {ps : List Nat} (e : Ech w m c R0 R ps) : pivP R ps 0 ≠ 0 := pivP_ne fun k q h => by
  rw [Nat.zero_add]; exact (e.piv k q h).1
/-- all columns are met: nothing but nought is put to nought -/
theorem full_kn {w m n : Nat} {R0 R : Mat} {ps : List Nat} (e : Ech w m n R0 R ps) (hw : n ≤ w) (hl : ps.length = n) {y : Nat → Int} (hk : Kn w m R0 y) (h0 : ∀ j, n ≤ j → j < w → y j = 0) : ∀ j, j < n → y j = 0 := fun j hj => by
  have hps := inc_full e.inc e.lt hl
  have hi : ps[j]? = some j := by rw [hps, List.getElem?_range hj]
  obtain ⟨v1, v2⟩ := e.piv j j hi
  have hm : j < m := by have := e.len; omega
  have := (e.kn y).mpr hk j hm
  rw [dot_one (p := j) (by omega) (fun i hi2 hne => ?_)] at this
  · exact (Int.mul_eq_zero.mp this).resolve_left v1
  · by_cases hin : i < n
    · have : ps[i]? = some i := by rw [hps, List.getElem?_range hin]
      rw [(e.piv i i this).2 j hm (Ne.symm hne), Int.zero_mul]
    · rw [h0 i (by omega) hi2, Int.mul_zero]
end Dl

/-! The D-layer, part 26: the program's rows and equations, read once. -/
namespace Dl
open PySem PySem.Spec
open PyProof.Rows L2
theorem bnd_addM {j k : Nat} {x y : Int} (h1 : bnd j x) (h2 : bnd k y) : bnd (max j k + 1) (x + y) := bnd_add (bnd_mono h1 (by omega)) (bnd_mono h2 (by omega))
theorem bnd_subM {j k : Nat} {x y : Int} (h1 : bnd j x) (h2 : bnd k y) : bnd (max j k + 1) (x - y) := bnd_sub' (bnd_mono h1 (by omega)) (bnd_mono h2 (by omega))
theorem bnd_negM {k : Nat} {x : Int} (h1 : bnd k x) : bnd k (-x) := by unfold bnd at *; omega
theorem bnd_lit {k : Nat} {x : Int} (h : x.natAbs < 2 ^ k) : bnd k x := h
local macro_rules | `(tactic| walk_at "rd") => `(tactic| ((conv => whnf); (try dsimp only [startD, wipeD, q_map_cons, q_map_nil, q_app_cons, q_app_nil, q_len_cons, q_len_nil, q_rep_0, q_rep_s, q_get_0, q_get_s, q_set_0, q_set_s, ifP_t, ifP_f, Nat.reduceAdd, Nat.reduceSub, Int.reduceToNat, Int.reducePow, Int.reduceAdd, Int.reduceMul])))
local macro_rules | `(tactic| walk_at "bx") => `(tactic| first | with_reducible assumption | (apply bnd_mul <;> walk_at "bx") | (apply bnd_addM <;> walk_at "bx") | (apply bnd_subM <;> walk_at "bx") | (apply bnd_negM <;> walk_at "bx") | exact bnd_lit (k := 8) (by decide) | exact bnd_lit (k := 64) (by decide) | (with_reducible (apply_assumption)))
local macro_rules | `(tactic| walk_at "bd") => `(tactic| first | with_reducible assumption | (apply bnd_mono; (walk_at "bx"); first | omega | decide))
local macro_rules | `(tactic| walk_at "sd") => `(tactic| first | with_reducible assumption | omega | with_reducible rfl | decide | exact few_of (by decide) | exact divOk_small (by decide) (by decide +kernel) | exact mulOk_r (by omega) (by omega) | exact mulOk_l (by omega) (by omega) | ((with_reducible apply mul_of); (walk_at "bx"); (walk_at "bx"); first | omega | decide) | exact few_of (by simp only [List.length_append, List.length_map, List.length_cons, List.length_nil, tab_len, List.length_replicate]; omega))
local macro_rules | `(tactic| walk_at "go") => `(tactic| ((try walk_at "rd"); (repeat (refine And.intro (by walk_at "sd") ?_; try walk_at "rd"))))
/-- a row of so many places -/
def rowW (w : Nat) (r : Nat → Int) : D := .tup (tabD w r)
def matD (m w : Nat) (R : Mat) : List D := (List.range m).map fun k => rowW w (R k)
abbrev g_divisor_of : DF := fun ds Q _ => ∃ (w : Nat) (r : Nat → Int) (row : D), ds = [row] ∧ (row = .tup (tabD w r) ∨ row = .lst (tabD w r)) ∧ Q (.int (gcdL r w))
abbrev N_divisor_of : List Str := ["numbers", "found", "number"]
def tb_divisor_of : DS :=
  (dSq (dSet 1 (dC (.int 0))) (dSq (dFor (dSeq (dVar 0)) (gNm 2) (dSet 1 (dCall 2 [] g_common (dCons (dVar 2) (dCons (dVar 1) dNil))))) (dRet (dVar 1))))
theorem rd_divisor_of (ds : List D) (Q E : EQ) (_ : ds.length = 1) (h : g_divisor_of ds Q E) : tb_divisor_of (dE Q E) (startD N_divisor_of ds) := by
  obtain ⟨w, r, row, rfl, hrow, q⟩ := h
  have go : ∀ s0 s2 : Sl, loopD (gNm 2) (dSet 1 (dCall 2 [] g_common (dCons (dVar 2) (dCons (dVar 1) dNil)))) { dE Q E with nx := dRet (dVar 1) (dE Q E) } (tabD w r) [s0, .sh (.int 0), s2] := fun s0 s2 => by
    refine loop_ix (fun k ρ => ∃ s2, ρ = [s0, .sh (.int (gcdL r k)), s2]) _ ?_ ?_ ⟨s2, rfl⟩
    · rintro ρ ⟨s2, rfl⟩
      rw [tab_len]
      exact q
    · rintro k x ρ hx ⟨s2, rfl⟩ N hN
      obtain ⟨hk, rfl⟩ := tab_inv hx
      walk_at "go"
      exact ⟨_, _, rfl, hN _ ⟨_, rfl⟩⟩
  unfold tb_divisor_of dE
  rcases hrow with rfl | rfl
  · walk_at "go"
    exact go _ _
  · walk_at "go"
    exact go _ _
abbrev g_lowest : DF := fun ds Q _ => ∃ (w : Nat) (r : Nat → Int), ds = [rowW w r] ∧ w ≤ 1000 ∧ (∀ j, bnd 8000 (r j)) ∧ Q (rowW w (lowR w r))
abbrev N_lowest : List Str := ["row", "share", "number"]
def tb_lowest : DS :=
  (dSq (dSet 1 (dCall 1 [] g_divisor_of (dCons (dVar 0) dNil))) (dSq (dIf (dTest (dOp kEq (dVarP 1) (dC (.int 0)))) (dRet (dVar 0)) dNext) (dRet (dCB kTuple (dCons (dFz (dLcN (dSeq (dVar 0)) (gNm 2) dYes (dOp kDiv (dVarP 2) (dVarP 1)) [2])) dNil)))))
theorem gcdL_bnd {k w : Nat} {r : Nat → Int} (h : ∀ j, bnd k (r j)) (h0 : gcdL r w ≠ 0) : bnd k (gcdL r w) := by
  have : ∃ j, j < w ∧ r j ≠ 0 := Classical.byContradiction fun hn => h0 (by
    have hz : ∀ j, j < w → r j = 0 := fun j hj => Classical.byContradiction fun z => hn ⟨j, hj, z⟩
    clear hn h0 h
    induction w with
    | zero => rfl
    | succ w ih => unfold gcdL; rw [hz w (by omega), ih fun j hj => hz j (by omega)]; rfl)
  obtain ⟨j, hj, hne⟩ := this
  have hd := gcdL_dvd r w j hj
  have h1 := Int.natAbs_dvd_natAbs.mpr hd
  have h2 : (gcdL r w).natAbs ≤ (r j).natAbs := Nat.le_of_dvd (by omega) h1
  exact bnd_le h2 (h j)
theorem rd_lowest (ds : List D) (Q E : EQ) (_ : ds.length = 1) (h : g_lowest ds Q E) : tb_lowest (dE Q E) (startD N_lowest ds) := by
  obtain ⟨w, r, rfl, hw, hb, q⟩ := h
  unfold tb_lowest dE rowW
  walk_at "go"
  refine ⟨w, r, _, rfl, .inl rfl, ?_⟩
  walk_at "go"
  by_cases h0 : gcdL r w = 0
  · rw [decide_eq_true h0]
    walk_at "go"
    have e : lowR w r = r := funext fun j => by unfold lowR; rw [if_pos h0]
    rw [e] at q
    exact q
  · rw [decide_eq_false h0]
    walk_at "go"
    have dv := div_of h0 (gcdL_bnd hb h0)
    refine comp_ix (fun k => .int (lowR w r k)) _ (fun k x hx K1 K0 hK => ?_) ?_
    · obtain ⟨hk, rfl⟩ := tab_inv hx
      walk_at "go"
      unfold lowR at hK
      rw [if_neg h0] at hK
      exact hK
    · rw [tab_len]
      walk_at "go"
      exact q
abbrev g_crossed : DF := fun ds Q _ => ∃ (w : Nat) (r s : Nat → Int) (p : Nat), ds = [rowW w r, rowW w s, .int p] ∧ p < w ∧ w ≤ 1000 ∧ (∀ j, bnd 3900 (r j)) ∧ (∀ j, bnd 3900 (s j)) ∧ Q (rowW w (crR w r s p))
abbrev N_crossed : List Str := ["row", "other", "place", "one", "two"]
def tb_crossed : DS :=
  (dRet (dCall 1 [] g_lowest (dCons (dCB kTuple (dCons (dFz (dLcN (dZip (dVar 0) (dVar 1)) (gTp 2 (gCs (gNm 3) (gCs (gNm 4) gNl))) dYes (dOp kSub (dOp kMul (dVarP 3) (dOp kIx (dVarP 1) (dVarP 2))) (dOp kMul (dVarP 4) (dOp kIx (dVarP 0) (dVarP 2)))) [3, 4])) dNil)) dNil)))
theorem rd_crossed (ds : List D) (Q E : EQ) (_ : ds.length = 3) (h : g_crossed ds Q E) : tb_crossed (dE Q E) (startD N_crossed ds) := by
  obtain ⟨w, r, s, p, rfl, hp, hw, hr, hs, q⟩ := h
  unfold tb_crossed dE rowW
  walk_at "go"
  refine comp_ix (fun k => .int (r k * s p - s k * r p)) _ (fun k x hx K1 K0 hK => ?_) ?_
  · unfold tabD at hx
    rw [pairs_rng] at hx
    obtain ⟨hk, rfl⟩ := rng_inv hx
    walk_at "go"
    rw [atI_nn, tab_get hp]
    have m1 := mul_of (hr k) (hs p) (by decide)
    have m2 := mul_of (hs k) (hr p) (by decide)
    walk_at "go"
    rw [atI_nn, tab_get hp]
    walk_at "go"
    exact hK
  · rw [pairs_len, tab_len, tab_len, Nat.min_self]
    walk_at "go"
    refine ⟨w, fun k => r k * s p - s k * r p, rfl, hw, fun j => ?_, q⟩
    exact bnd_mono (bnd_sub' (bnd_mul (hr j) (hs p)) (bnd_mul (hs j) (hr p))) (by decide)
abbrev g_first_with : DF := fun ds Q _ => ∃ (m w : Nat) (R : Mat) (a p : Nat), ds = [.lst (matD m w R), .int a, .int p] ∧ p < w ∧ m ≤ 1000 ∧ a ≤ m ∧ Q (match fwN R p (m - a) a with | none => .non | some k => .int k)
abbrev N_first_with : List Str := ["rows", "at", "place", "k"]
def tb_first_with : DS :=
  (dSq (dFor (dRng2 (dVarP 1) (dCB kLen (dCons (dVarP 0) dNil))) (gNm 3) (dIf (dTest (dOp kNe (dOp kIx (dOp kIx (dVarP 0) (dVarP 3)) (dVarP 2)) (dC (.int 0)))) (dRet (dVar 3)) dNext)) (dRet (dC .non)))
theorem mat_len {m w : Nat} {R : Mat} : (matD m w R).length = m := rng_len
theorem mat_get {m w : Nat} {R : Mat} {k : Nat} (h : k < m) : (matD m w R)[k]? = some (rowW w (R k)) := rng_get h
theorem mat_set {m w : Nat} {R : Mat} {k : Nat} {r : Nat → Int} : (matD m w R).set k (rowW w r) = matD m w (fun i => if i = k then r else R i) := by
  unfold matD
  rw [rng_set]
  refine rng_congr fun i hi => ?_
  dsimp only
  by_cases e : i = k
  · rw [if_pos e, if_pos e]
  · rw [if_neg e, if_neg e]
theorem fwN_s {R : Mat} {p t a : Nat} : fwN R p (t + 1) a = if R a p = 0 then fwN R p t (a + 1) else some a := rfl
theorem rd_first_with (ds : List D) (Q E : EQ) (_ : ds.length = 3) (h : g_first_with ds Q E) : tb_first_with (dE Q E) (startD N_first_with ds) := by
  obtain ⟨m, w, R, a, p, rfl, hp, hm, ha, q⟩ := h
  unfold tb_first_with dE
  walk_at "go"
  rw [mat_len]
  refine ⟨⟨by omega, by omega, by omega, by omega, by omega⟩, ?_⟩
  rw [show ((m : Int) - (a : Int)).toNat = m - a by omega]
  refine loop_ix (fun k ρ => ∃ s3, ρ = [.sh (.lst (matD m w R)), .sh (.int a), .sh (.int p), s3] ∧ fwN R p (m - a) a = fwN R p (m - a - k) (a + k)) _ ?_ ?_ ⟨_, rfl, rfl⟩
  · rintro ρ ⟨s3, rfl, e⟩
    rw [irg_len, Nat.sub_self] at e
    rw [e] at q
    exact q
  · rintro k x ρ hx ⟨s3, rfl, e⟩ N hN
    obtain ⟨hk, rfl⟩ := irg_inv hx
    walk_at "rd"
    rw [show (a : Int) + (k : Int) = ((a + k : Nat) : Int) by omega, atI_nn, mat_get (by omega)]
    walk_at "rd"
    rw [atI_nn, tab_get hp]
    walk_at "rd"
    rw [show m - a - k = (m - a - (k + 1)) + 1 by omega] at e
    rw [fwN_s] at e
    by_cases h0 : R (a + k) p = 0
    · rw [decide_eq_true h0]
      rw [if_pos h0] at e
      walk_at "rd"
      exact hN _ ⟨_, rfl, e⟩
    · rw [decide_eq_false h0]
      rw [if_neg h0] at e
      rw [e] at q
      walk_at "rd"
      exact q
end Dl

/-! The D-layer, part 27: reduced, solution, solved. -/
namespace Dl
open PySem PySem.Spec
open PyProof.Rows L2
local macro_rules | `(tactic| walk_at "rd") => `(tactic| ((conv => whnf); (try dsimp only [startD, wipeD, q_map_cons, q_map_nil, q_app_cons, q_app_nil, q_len_cons, q_len_nil, q_rep_0, q_rep_s, q_get_0, q_get_s, q_set_0, q_set_s, ifP_t, ifP_f, Nat.reduceAdd, Nat.reduceSub, Int.reduceToNat, Int.reducePow, Int.reduceAdd, Int.reduceMul])))
local macro_rules | `(tactic| walk_at "bx") => `(tactic| first | with_reducible assumption | (apply bnd_mul <;> walk_at "bx") | (apply bnd_addM <;> walk_at "bx") | (apply bnd_subM <;> walk_at "bx") | (apply bnd_negM <;> walk_at "bx") | exact bnd_lit (k := 8) (by decide) | exact bnd_lit (k := 64) (by decide) | (with_reducible (apply_assumption)))
local macro_rules | `(tactic| walk_at "bd") => `(tactic| first | with_reducible assumption | (apply bnd_mono; (walk_at "bx"); first | omega | decide))
local macro_rules | `(tactic| walk_at "sd") => `(tactic| first | with_reducible assumption | omega | with_reducible rfl | exact (rfl : (_ : Bool) = true) | decide | exact few_of (by decide) | exact divOk_small (by decide) (by decide +kernel) | exact mulOk_r (by omega) (by omega) | exact mulOk_l (by omega) (by omega) | ((with_reducible apply mul_of); (walk_at "bx"); (walk_at "bx"); first | omega | decide) | exact few_of (by simp only [List.length_append, List.length_map, List.length_cons, List.length_nil, tab_len, List.length_replicate]; omega))
local macro_rules | `(tactic| walk_at "go") => `(tactic| ((try walk_at "rd"); (repeat (refine And.intro (by walk_at "sd") ?_; try walk_at "rd"))))
def psD (ps : List Nat) : List D := ps.map fun q : Nat => .int (q : Int)
abbrev g_reduced : DF := fun ds Q _ => ∃ (m w c b : Nat) (R : Mat), ds = [.lst (matD m w R), .int c] ∧ c ≤ w ∧ w ≤ 1000 ∧ m ≤ 1000 ∧ (∀ i j, bnd b (R i j)) ∧ eb b c ≤ 3900 ∧ Q (.tup [.lst (matD m w (redG w m R c).1), .lst (psD (redG w m R c).2)])
abbrev N_reduced : List Str := ["rows", "many", "left", "row", "places", "place", "at", "pick", "one", "k"]
def tb_reduced : DS :=
  (dSq (dOwn 2 (dLcN (dSeq (dVar 0)) (gNm 3) dYes (dCall 1 [] g_lowest (dCons (dCB kTuple (dCons (dVarP 3) dNil)) dNil)) [3])) (dSq (dOwn 4 (dLstN dNil)) (dSq (dFor (dRng1 (dVarP 1)) (gNm 5) (dSq (dSet 6 (dCB kLen (dCons (dVarP 4) dNil))) (dSq (dSet 7 (dCallP 3 g_first_with (dCons (dVarP 2) (dCons (dVarP 6) (dCons (dVarP 5) dNil))))) (dSq (dIf (dTest (dOp kIs (dVarP 7) (dC .non))) dCnt dNext) (dSq (dSet 8 (dOp kIx (dVarP 2) (dVarP 6))) (dSq (dPut 2 (dVarP 6) (dOp kIx (dVarP 2) (dVarP 7))) (dSq (dPut 2 (dVarP 7) (dVar 8)) (dSq (dFor (dRng1 (dCB kLen (dCons (dVarP 2) dNil))) (gNm 9) (dIf (dAnd (dTest (dOp kNe (dVarP 9) (dVarP 6))) (dTest (dOp kNe (dOp kIx (dOp kIx (dVarP 2) (dVarP 9)) (dVarP 5)) (dC (.int 0))))) (dPut 2 (dVarP 9) (dCall 3 [] g_crossed (dCons (dOp kIx (dVarP 2) (dVarP 9)) (dCons (dOp kIx (dVarP 2) (dVarP 6)) (dCons (dVar 5) dNil))))) dNext)) (dApp 4 (dVar 5)))))))))) (dFrz 4 (dFrz 2 (dRet (dTup (dCons (dVar 2) (dCons (dVar 4) dNil)))))))))
theorem el_at {w m : Nat} {R : Mat} {a p : Nat} : elR w m R a p a = R a := by unfold elR; rw [if_neg (fun z => z.2.1 rfl)]
theorem red_s (w m : Nat) (R : Mat) (c : Nat) : redG w m R (c + 1) = stepG w m (redG w m R c) c := rfl
theorem rd_reduced (ds : List D) (Q E : EQ) (_ : ds.length = 2) (h : g_reduced ds Q E) : tb_reduced (dE Q E) (startD N_reduced ds) := by
  obtain ⟨m, w, c, b, R, rfl, hc, hw, hm, hb, hbb, q⟩ := h
  have b0 : b ≤ eb b c := eb_mono (n := 0) (Nat.zero_le c)
  unfold tb_reduced dE
  walk_at "go"
  refine comp_ix (fun k => rowW w (lowR w (R k))) _ (fun k x hx K1 K0 hK => ?_) ?_
  · obtain ⟨hk, rfl⟩ := rng_inv hx
    unfold rowW
    walk_at "go"
    exact ⟨w, R k, rfl, hw, fun j => bnd_mono (hb k j) (by omega), hK⟩
  rw [mat_len]
  walk_at "go"
  refine loop_ix (fun k ρ => ∃ s3 s5 s6 s7 s8 s9, ρ = [.sh (.lst (matD m w R)), .sh (.int c), .ow (matD m w (redG w m R k).1), s3, .ow (psD (redG w m R k).2), s5, s6, s7, s8, s9]) _ ?_ ?_ ⟨_, _, _, _, _, _, rfl⟩
  · rintro ρ ⟨s3, s5, s6, s7, s8, s9, rfl⟩
    rw [irg_len, show (c : Int).toNat = c from rfl]
    walk_at "go"
    exact q
  · rintro k x ρ hx ⟨s3, s5, s6, s7, s8, s9, rfl⟩ N hN
    obtain ⟨hk, rfl⟩ := irg_inv hx
    rw [show (c : Int).toNat = c from rfl] at hk
    rw [Int.zero_add]
    have ec := red_ech (w := w) (m := m) (R0 := R) (c := k) (by omega)
    have bd := red_bnd (w := w) (m := m) hb k
    have be : eb b (redG w m R k).2.length ≤ eb b k := eb_mono (red_len w m R k)
    have be2 : eb b k ≤ eb b c := eb_mono (by omega)
    rw [red_s] at hN
    generalize redG w m R k = s at ec bd be hN ⊢
    obtain ⟨S, ps⟩ := s
    dsimp only at ec bd be
    have bd : ∀ i j, bnd 3900 (S i j) := fun i j => bnd_mono (bd i j) (by omega)
    have hl := ec.len
    walk_at "go"
    refine ⟨m, w, S, ps.length, k, by unfold psD; rw [List.length_map], by omega, hm, hl, ?_⟩
    unfold stepG at hN
    dsimp only at hN
    cases hf : fwN S k (m - ps.length) ps.length with
    | none =>
      rw [hf] at hN
      walk_at "go"
      exact hN _ ⟨_, _, _, _, _, _, rfl⟩
    | some k0 =>
      rw [hf] at hN
      obtain ⟨f1, f2, f3⟩ := fwN_some hf
      have hk0 : k0 < m := by omega
      have ha : ps.length < m := by omega
      dsimp only at hN
      walk_at "go"
      unfold psD
      rw [List.length_map, atI_nn, mat_get ha]
      walk_at "rd"
      rw [atI_nn, mat_get hk0]
      walk_at "rd"
      rw [mat_len, ixN_nn ha]
      walk_at "rd"
      rw [mat_set, mat_len, ixN_nn hk0]
      walk_at "rd"
      rw [mat_set]
      have es : (fun i => if i = k0 then S ps.length else (fun i => if i = ps.length then S k0 else S i) i) = swR S ps.length k0 := rfl
      rw [es]
      have bS := sw_bnd (a := ps.length) (b := k0) bd
      generalize swR S ps.length k0 = T at bS hN ⊢
      rw [mat_len]
      walk_at "go"
      rw [show (m : Int).toNat = m from rfl]
      refine loop_ix (fun kk ρ => ∃ s9, ρ = [.sh (.lst (matD m w R)), .sh (.int c), .ow (matD m w (fun i => if i < kk then elR w m T ps.length k i else T i)), s3, .ow (psD ps), .sh (.int k), .sh (.int ps.length), .sh (.int k0), .sh (rowW w (S ps.length)), s9]) _ ?_ ?_ ⟨_, by
        rw [show (fun i => if i < 0 then elR w m T ps.length k i else T i) = T from funext fun i => if_neg (Nat.not_lt_zero i)]; rfl⟩
      · rintro ρ ⟨s9, rfl⟩
        rw [irg_len]
        walk_at "go"
        refine ⟨few_of (by unfold psD; rw [List.length_append, List.length_map, List.length_singleton]; omega), ?_⟩
        have e1 : matD m w (fun i => if i < m then elR w m T ps.length k i else T i) = matD m w (elR w m T ps.length k) := rng_congr fun i hi => by dsimp only; rw [if_pos hi]
        rw [e1, show psD ps ++ [D.int k] = psD (ps ++ [k]) by unfold psD; rw [List.map_append]; rfl]
        exact hN _ ⟨s3, _, _, _, _, _, rfl⟩
      · rintro kk x ρ hx ⟨s9, rfl⟩ N' hN'
        obtain ⟨hkk, rfl⟩ := irg_inv hx
        rw [Int.zero_add]
        walk_at "rd"
        by_cases e1 : kk = ps.length
        · rw [decide_eq_true (show (kk : Int) = (ps.length : Int) by omega)]
          walk_at "rd"
          refine hN' _ ⟨.sh (.int kk), ?_⟩
          congr 4
          refine rng_congr fun i hi => ?_
          dsimp only
          by_cases z : i < kk
          · rw [if_pos z, if_pos (by omega)]
          · rw [if_neg z]
            by_cases z2 : i = kk
            · rw [if_pos (by omega), z2, e1, el_at]
            · rw [if_neg (by omega)]
        · rw [decide_eq_false (show ¬ (kk : Int) = (ps.length : Int) by omega)]
          walk_at "rd"
          rw [atI_nn, mat_get hkk]
          unfold rowW
          walk_at "rd"
          rw [atI_nn, tab_get (by omega), if_neg (Nat.lt_irrefl kk)]
          walk_at "rd"
          by_cases e2 : T kk k = 0
          · rw [decide_eq_true e2]
            walk_at "rd"
            refine hN' _ ⟨.sh (.int kk), ?_⟩
            congr 4
            refine rng_congr fun i hi => ?_
            dsimp only
            by_cases z : i < kk
            · rw [if_pos z, if_pos (by omega)]
            · rw [if_neg z]
              by_cases z2 : i = kk
              · rw [if_pos (by omega), z2]
                unfold elR
                rw [if_neg (fun h => h.2.2 e2)]
              · rw [if_neg (by omega)]
          · rw [decide_eq_false e2]
            walk_at "rd"
            rw [atI_nn, mat_get hkk]
            walk_at "rd"
            rw [atI_nn, mat_get ha]
            walk_at "go"
            have ta : (if ps.length < kk then elR w m T ps.length k ps.length else T ps.length) = T ps.length := by rw [el_at]; exact ite_self _
            refine ⟨w, T kk, T ps.length, k, ?_, by omega, hw, bS kk, bS ps.length, ?_⟩
            · rw [if_neg (Nat.lt_irrefl kk), ta]
            walk_at "rd"
            rw [mat_len, ixN_nn hkk]
            walk_at "rd"
            refine hN' _ ⟨.sh (.int kk), ?_⟩
            rw [mat_set]
            congr 4
            refine rng_congr fun i hi => ?_
            dsimp only
            by_cases z2 : i = kk
            · rw [if_pos z2, if_pos (by omega), z2]
              unfold elR
              rw [if_pos ⟨hkk, e1, e2⟩]
            · rw [if_neg z2]
              by_cases z : i < kk
              · rw [if_pos z, if_pos (by omega)]
              · rw [if_neg z, if_neg (by omega)]
end Dl

/-! The D-layer, part 28: solution, solved. -/
namespace Dl
open PySem PySem.Spec
open PyProof.Rows L2
local macro_rules | `(tactic| walk_at "rd") => `(tactic| ((conv => whnf); (try dsimp only [startD, wipeD, q_map_cons, q_map_nil, q_app_cons, q_app_nil, q_len_cons, q_len_nil, q_rep_0, q_rep_s, q_get_0, q_get_s, q_set_0, q_set_s, ifP_t, ifP_f, Nat.reduceAdd, Nat.reduceSub, Int.reduceToNat, Int.reducePow, Int.reduceAdd, Int.reduceMul])))
local macro_rules | `(tactic| walk_at "bx") => `(tactic| first | with_reducible assumption | (apply bnd_mul <;> walk_at "bx") | (apply bnd_addM <;> walk_at "bx") | (apply bnd_subM <;> walk_at "bx") | (apply bnd_negM <;> walk_at "bx") | exact bnd_lit (k := 8) (by decide) | exact bnd_lit (k := 64) (by decide) | (with_reducible (apply_assumption)))
local macro_rules | `(tactic| walk_at "bd") => `(tactic| first | with_reducible assumption | (apply bnd_mono; (walk_at "bx"); first | omega | decide))
local macro_rules | `(tactic| walk_at "sd") => `(tactic| first | with_reducible assumption | omega | with_reducible rfl | exact (rfl : (_ : Bool) = true) | decide | exact few_of (by decide) | exact divOk_small (by decide) (by decide +kernel) | exact mulOk_r (by omega) (by omega) | exact mulOk_l (by omega) (by omega) | ((with_reducible apply mul_of); (walk_at "bx"); (walk_at "bx"); first | omega | decide) | exact few_of (by simp only [List.length_append, List.length_map, List.length_cons, List.length_nil, tab_len, List.length_replicate]; omega))
local macro_rules | `(tactic| walk_at "go") => `(tactic| ((try walk_at "rd"); (repeat (refine And.intro (by walk_at "sd") ?_; try walk_at "rd"))))
def xG (R : Mat) (c : Nat) (ps : List Nat) (q : Nat) : Int × Int := if q ∈ ps then (R (ps.idxOf q) c, R (ps.idxOf q) q) else (0, 1)
def frP (p : Int × Int) : D := fr p.1 p.2
def badG (m c : Nat) (R : Mat) (n : Nat) : Bool := (List.range m).any fun k => decide (n ≤ k) && decide (R k c ≠ 0)
def solN (m c : Nat) (R : Mat) : Option (List (Int × Int) × Nat) :=
  if badG m c (redG (c + 1) m R c).1 (redG (c + 1) m R c).2.length then none else some ((List.range c).map (xG (redG (c + 1) m R c).1 c (redG (c + 1) m R c).2), (redG (c + 1) m R c).2.length)
def solD : Option (List (Int × Int) × Nat) → D
  | none => .non
  | some (xs, n) => .tup [.lst (xs.map frP), .int n]
abbrev g_solution : DF := fun ds Q _ => ∃ (m c b : Nat) (R : Mat), ds = [.lst (matD m (c + 1) R), .int c] ∧ c ≤ 999 ∧ m ≤ 1000 ∧ (∀ i j, bnd b (R i j)) ∧ eb b c ≤ 3900 ∧ Q (solD (solN m c R))
abbrev N_solution : List Str := ["rows", "many", "left", "places", "row", "found", "k"]
def tb_solution : DS :=
  (dSq (dAsg (dCall 2 [] g_reduced (dCons (dVar 0) (dCons (dVar 1) dNil))) (gTp 2 (gCs (gNm 2) (gCs (gNm 3) gNl)))) (dSq (dFor (dSeq (dSl (dVarP 2) (dPart (dCB kLen (dCons (dVarP 3) dNil))) dNoPart)) (gNm 4) (dIf (dTest (dOp kNe (dOp kIx (dVarP 4) (dNeg (dC (.int 1)))) (dC (.int 0)))) (dRet (dC .non)) dNext)) (dSq (dOwn 5 (dRepN (dLst (dCons (dCall 2 [.int 1] g_fraction (dCons (dC (.int 0)) dNil)) dNil)) (dVarP 1))) (dSq (dFor (dRng1 (dCB kLen (dCons (dVarP 3) dNil))) (gNm 6) (dPut 5 (dOp kIx (dVarP 3) (dVarP 6)) (dCall 2 [] g_fraction (dCons (dOp kIx (dOp kIx (dVarP 2) (dVarP 6)) (dNeg (dC (.int 1)))) (dCons (dOp kIx (dOp kIx (dVarP 2) (dVarP 6)) (dOp kIx (dVarP 3) (dVarP 6))) dNil))))) (dFrz 5 (dRet (dTup (dCons (dVar 5) (dCons (dCB kLen (dCons (dVarP 3) dNil)) dNil)))))))))
theorem cut_drop {α : Type} (xs : List α) (k : Nat) : cut xs (some (k : Int)) none = xs.drop k := by
  unfold cut
  rw [HT.sIx_nat, HT.sIx_none]
  by_cases h : k ≤ xs.length
  · rw [Nat.min_eq_left h, List.take_of_length_le (by rw [List.length_drop]; omega)]
  · rw [Nat.min_eq_right (by omega), List.drop_length, List.drop_of_length_le (by omega), List.take_nil]
theorem tab_last (c : Nat) (r : Nat → Int) : atI (tabD (c + 1) r) (-1) = some (.int (r c)) := by
  unfold atI ixN
  rw [tab_len, if_neg (by decide), if_pos (by omega)]
  show (tabD (c + 1) r)[((-1 : Int) + ((c + 1 : Nat) : Int)).toNat]? = _
  rw [show ((-1 : Int) + ((c + 1 : Nat) : Int)).toNat = c by omega, tab_get (by omega)]
theorem rep_rng (m : Nat) (x : D) : (List.replicate m [x]).flatten = (List.range m).map fun _ => x := by
  induction m with
  | zero => rfl
  | succ m ih =>
    rw [List.replicate_succ', List.flatten_append, List.range_succ, List.map_append, ih]
    rfl
theorem ps_get {ps : List Nat} {k p : Nat} (h : ps[k]? = some p) : atI (psD ps) (k : Int) = some (.int p) := by
  rw [atI_nn]
  unfold psD
  rw [List.getElem?_map, h]
  rfl
theorem rd_solution (ds : List D) (Q E : EQ) (_ : ds.length = 2) (h : g_solution ds Q E) : tb_solution (dE Q E) (startD N_solution ds) := by
  obtain ⟨m, c, b, R0, rfl, hc, hm, hb, hbb, q⟩ := h
  unfold tb_solution dE
  walk_at "go"
  refine ⟨m, c + 1, c, b, R0, rfl, by omega, by omega, hm, hb, hbb, ?_⟩
  have ec := red_ech (w := c + 1) (m := m) (R0 := R0) (c := c) (by omega)
  have bd := red_bnd (w := c + 1) (m := m) hb c
  have be : eb b (redG (c + 1) m R0 c).2.length ≤ eb b c := eb_mono (red_len (c + 1) m R0 c)
  unfold solN at q
  generalize redG (c + 1) m R0 c = s at ec bd be q ⊢
  obtain ⟨R, ps⟩ := s
  dsimp only at ec bd be q
  have bd : ∀ i j, bnd 3900 (R i j) := fun i j => bnd_mono (bd i j) (by omega)
  have hl := ec.len
  have hlc : ps.length ≤ c := inc_len ec.inc ec.lt
  walk_at "go"
  unfold psD
  rw [List.length_map, cut_drop]
  have dg : ∀ k, ((matD m (c + 1) R).drop ps.length)[k]? = if ps.length + k < m then some (rowW (c + 1) (R (ps.length + k))) else none := fun k => by
    rw [List.getElem?_drop]
    by_cases z : ps.length + k < m
    · rw [if_pos z, mat_get z]
    · rw [if_neg z, List.getElem?_eq_none (by rw [mat_len]; omega)]
  refine loop_ix (fun k ρ => ∃ s4, ρ = [.sh (.lst (matD m (c + 1) R0)), .sh (.int c), .sh (.lst (matD m (c + 1) R)), .sh (.lst (psD ps)), s4, .no, .no] ∧ ∀ i, ps.length ≤ i → i < ps.length + k → R i c = 0) _ ?_ ?_ ⟨_, rfl, fun i h1 h2 => by omega⟩
  case refine_2 =>
    rintro k x ρ hx ⟨s4, rfl, hz⟩ N hN
    rw [dg] at hx
    by_cases z : ps.length + k < m
    case neg => rw [if_neg z] at hx; cases hx
    rw [if_pos z] at hx
    cases hx
    unfold rowW
    walk_at "rd"
    rw [tab_last]
    walk_at "rd"
    by_cases h0 : R (ps.length + k) c = 0
    · rw [decide_eq_true h0]
      walk_at "rd"
      refine hN _ ⟨_, rfl, fun i h1 h2 => ?_⟩
      by_cases e : i = ps.length + k
      · rw [e]; exact h0
      · exact hz i h1 (by omega)
    · rw [decide_eq_false h0]
      walk_at "rd"
      have : badG m c R ps.length = true := by
        unfold badG
        rw [List.any_eq_true]
        exact ⟨ps.length + k, List.mem_range.mpr z, by rw [Bool.and_eq_true]; exact ⟨decide_eq_true (by omega), decide_eq_true h0⟩⟩
      rw [if_pos this] at q
      exact q
  case refine_1 =>
    rintro ρ ⟨s4, rfl, hz⟩
    rw [List.length_drop, mat_len] at hz
    have nb : ¬ badG m c R ps.length = true := fun hb => by
      unfold badG at hb
      rw [List.any_eq_true] at hb
      obtain ⟨k, h1, h2⟩ := hb
      rw [Bool.and_eq_true] at h2
      exact (of_decide_eq_true h2.2) (hz k (of_decide_eq_true h2.1) (by have := List.mem_range.mp h1; omega))
    rw [if_neg nb] at q
    walk_at "go"
    refine ⟨0, 1, rfl, by decide, bnd_one (by decide), ?_⟩
    rw [fr_one]
    walk_at "go"
    refine ⟨few_of (by rw [rep_rng, rng_len, show (c : Int).toNat = c from rfl]; omega), ?_⟩
    rw [rep_rng, show (c : Int).toNat = c from rfl]
    walk_at "go"
    unfold psD
    rw [List.length_map]
    walk_at "go"
    rw [show (ps.length : Int).toNat = ps.length from rfl]
    refine loop_ix (fun k ρ => ∃ s6, ρ = [.sh (.lst (matD m (c + 1) R0)), .sh (.int c), .sh (.lst (matD m (c + 1) R)), .sh (.lst (psD ps)), s4, .ow ((List.range c).map fun q => frP (if q ∈ ps.take k then (R (ps.idxOf q) c, R (ps.idxOf q) q) else (0, 1))), s6]) _ ?_ ?_ ⟨.no, ?_⟩
    · rintro ρ ⟨s6, rfl⟩
      rw [irg_len, List.take_length]
      walk_at "go"
      unfold psD
      rw [List.length_map]
      walk_at "go"
      have e : (List.range c).map (fun q => frP (if q ∈ ps then (R (ps.idxOf q) c, R (ps.idxOf q) q) else (0, 1))) = ((List.range c).map (xG R c ps)).map frP := by rw [List.map_map]; rfl
      rw [e]
      exact q
    · rintro k x ρ hx ⟨s6, rfl⟩ N hN
      obtain ⟨hk, rfl⟩ := irg_inv hx
      rw [Int.zero_add]
      obtain ⟨p, hp⟩ : ∃ p, ps[k]? = some p := ⟨ps[k], List.getElem?_eq_getElem hk⟩
      have hpc : p < c := ec.lt p (List.mem_of_getElem? hp)
      obtain ⟨v1, v2⟩ := ec.piv k p hp
      have hx := idx_of (inc_nodup ec.inc) hp
      walk_at "rd"
      rw [atI_nn, mat_get (by omega)]
      unfold rowW
      walk_at "rd"
      rw [tab_last]
      walk_at "rd"
      rw [atI_nn, mat_get (by omega)]
      walk_at "rd"
      rw [ps_get hp]
      walk_at "rd"
      rw [atI_nn, tab_get (by omega)]
      walk_at "go"
      refine ⟨_, _, rfl, v1, bnd_mono (bd _ _) (by decide), ?_⟩
      walk_at "rd"
      rw [ps_get hp]
      walk_at "rd"
      rw [rng_len, ixN_nn hpc]
      walk_at "rd"
      rw [rng_set]
      have e : (List.range c).map (fun i => if i = p then fr (R k c) (R k p) else frP (if i ∈ ps.take k then (R (ps.idxOf i) c, R (ps.idxOf i) i) else (0, 1))) = (List.range c).map (fun q => frP (if q ∈ ps.take (k + 1) then (R (ps.idxOf q) c, R (ps.idxOf q) q) else (0, 1))) := rng_congr fun i hi => by
        have tk : i ∈ ps.take (k + 1) ↔ i ∈ ps.take k ∨ i = p := by
          rw [List.take_succ, hp, List.mem_append]
          exact or_congr Iff.rfl (List.mem_singleton)
        by_cases z : i = p
        · rw [if_pos z, if_pos (tk.mpr (.inr z)), z, hx]
          rfl
        · rw [if_neg z]
          by_cases z2 : i ∈ ps.take k
          · rw [if_pos z2, if_pos (tk.mpr (.inl z2))]
          · rw [if_neg z2, if_neg (fun h => (tk.mp h).elim z2 z)]
      rw [e]
      exact hN _ ⟨_, rfl⟩
    · congr 7
      refine rng_congr fun i hi => ?_
      rw [List.take_zero, if_neg (List.not_mem_nil)]
      exact (fr_one 0).symm
def solvedD (c : Nat) : Option (List (Int × Int) × Nat) → D
  | none => .non
  | some (xs, n) => if n < c then .non else .lst (xs.map frP)
abbrev g_solved : DF := fun ds Q _ => ∃ (m c b : Nat) (R : Mat), ds = [.lst (matD m (c + 1) R)] ∧ 0 < m ∧ c ≤ 999 ∧ m ≤ 1000 ∧ (∀ i j, bnd b (R i j)) ∧ eb b c ≤ 3900 ∧
  Q (solvedD c (solN m c R))
abbrev N_solved : List Str := ["rows", "many", "found"]
def tb_solved : DS :=
  (dSq (dSet 1 (dOp kSub (dCB kLen (dCons (dOp kIx (dVarP 0) (dC (.int 0))) dNil)) (dC (.int 1)))) (dSq (dSet 2 (dCall 2 [] g_solution (dCons (dVar 0) (dCons (dVar 1) dNil)))) (dSq (dIf (dOr (dTest (dOp kIs (dVarP 2) (dC .non))) (dTest (dOp kLt (dOp kIx (dVarP 2) (dC (.int 1))) (dVarP 1)))) (dRet (dC .non)) dNext) (dRet (dOp kIx (dVarP 2) (dC (.int 0)))))))
theorem rd_solved (ds : List D) (Q E : EQ) (_ : ds.length = 1) (h : g_solved ds Q E) : tb_solved (dE Q E) (startD N_solved ds) := by
  obtain ⟨m, c, b, R0, rfl, m0, hc, hm, hb, hbb, q⟩ := h
  unfold tb_solved dE
  walk_at "rd"
  rw [show (0 : Int) = ((0 : Nat) : Int) from rfl, atI_nn, mat_get m0]
  unfold rowW
  walk_at "go"
  rw [tab_len]
  refine ⟨m, c, b, R0, by rw [show ((c + 1 : Nat) : Int) - 1 = (c : Int) by omega], hc, hm, hb, hbb, ?_⟩
  cases hs : solN m c R0 with
  | none =>
    rw [hs] at q
    walk_at "go"
    exact q
  | some p =>
    obtain ⟨xs, n⟩ := p
    rw [hs] at q
    have q : Q (if n < c then D.non else D.lst (xs.map frP)) := q
    walk_at "go"
    rw [show ((c + 1 : Nat) : Int) - 1 = (c : Int) by omega]
    by_cases hn : n < c
    · rw [decide_eq_true (show (n : Int) < (c : Int) by omega)]
      rw [if_pos hn] at q
      walk_at "go"
      exact q
    · rw [decide_eq_false (show ¬ (n : Int) < (c : Int) by omega)]
      rw [if_neg hn] at q
      walk_at "go"
      exact q
end Dl

/-! The D-layer, part 29: is_fraction; the law's rows along points. -/
namespace Dl
open PySem PySem.Spec
open PyProof.Rows L2
local macro_rules | `(tactic| walk_at "rd") => `(tactic| ((conv => whnf); (try dsimp only [startD, wipeD, q_map_cons, q_map_nil, q_app_cons, q_app_nil, q_len_cons, q_len_nil, q_rep_0, q_rep_s, q_get_0, q_get_s, q_set_0, q_set_s, ifP_t, ifP_f, Nat.reduceAdd, Nat.reduceSub, Int.reduceToNat, Int.reducePow, Int.reduceAdd, Int.reduceMul])))
local macro_rules | `(tactic| walk_at "bx") => `(tactic| first | with_reducible assumption | (apply bnd_mul <;> walk_at "bx") | (apply bnd_addM <;> walk_at "bx") | (apply bnd_subM <;> walk_at "bx") | (apply bnd_negM <;> walk_at "bx") | exact bnd_lit (k := 8) (by decide) | exact bnd_lit (k := 64) (by decide) | (with_reducible (apply_assumption)))
local macro_rules | `(tactic| walk_at "bd") => `(tactic| first | with_reducible assumption | (apply bnd_mono; (walk_at "bx"); first | omega | decide))
local macro_rules | `(tactic| walk_at "sd") => `(tactic| first | with_reducible assumption | omega | with_reducible rfl | exact (rfl : (_ : Bool) = true) | decide | exact few_of (by decide) | exact divOk_small (by decide) (by decide +kernel) | exact mulOk_r (by omega) (by omega) | exact mulOk_l (by omega) (by omega) | ((with_reducible apply mul_of); (walk_at "bx"); (walk_at "bx"); first | omega | decide) | exact few_of (by simp only [List.length_append, List.length_map, List.length_cons, List.length_nil, tab_len, List.length_replicate]; omega))
local macro_rules | `(tactic| walk_at "go") => `(tactic| ((try walk_at "rd"); (repeat (refine And.intro (by walk_at "sd") ?_; try walk_at "rd"))))
def frTwo : D → D → Option Bool
  | .int a, .int b => some (decide (0 < b) && decide ((Int.gcd a b : Int) = 1))
  | x, y => match isWh x with
    | some true => match isWh y with
      | some false => some false
      | _ => none
    | b => b
def isFr : D → Option Bool
  | .tup l => match l with
    | [x, y] => frTwo x y
    | _ => some false
  | .lst _ => some false
  | .int _ => some false
  | .bl _ => some false
  | .str _ => some false
  | .non => some false
  | .dic _ => some false
  | _ => none
abbrev g_is_fraction : DF := fun ds Q _ => ∃ d b, ds = [d] ∧ isFr d = some b ∧ Q (.bl b)
abbrev N_is_fraction : List Str := ["thing", "top", "bottom"]
def tb_is_fraction (K : PySem.W.Frag) : DS :=
  (dSq (dIf (dOr (dNot (dTest (dCB (kIsi K) (dCons (dVarP 0) (dCons (dC (.ty "tuple")) dNil))))) (dTest (dOp kNe (dCB kLen (dCons (dVarP 0) dNil)) (dC (.int 2))))) (dRet (dC (.bl false))) dNext) (dSq (dAsg (dVar 0) (gTp 2 (gCs (gNm 1) (gCs (gNm 2) gNl)))) (dRet (dAndV (dCall 1 [] g_is_whole (dCons (dVar 1) dNil)) (dAndV (dCall 1 [] g_is_whole (dCons (dVar 2) dNil)) (dAndV (dOp kGt (dVarP 2) (dC (.int 0))) (dOp kEq (dCall 2 [] g_common (dCons (dVar 1) (dCons (dVar 2) dNil))) (dC (.int 1)))))))))
theorem isFr_ints (a b : Int) : isFr (.tup [.int a, .int b]) = some (decide (0 < b) && decide ((Int.gcd a b : Int) = 1)) := rfl
theorem rd_is_fraction {K : PySem.W.Frag} (ds : List D) (Q E : EQ) (_ : ds.length = 1) (h : g_is_fraction ds Q E) : tb_is_fraction K (dE Q E) (startD N_is_fraction ds) := by
  obtain ⟨d, c, rfl, hd, q⟩ := h
  have two : ∀ x y : D, isFr (.tup [x, y]) = some c → tb_is_fraction K (dE Q E) (startD N_is_fraction [.tup [x, y]]) := fun x y hd => by
    unfold tb_is_fraction dE
    walk_at "go"
    by_cases hx : ∃ a, x = .int a
    · obtain ⟨a, rfl⟩ := hx
      refine ⟨_, true, rfl, rfl, ?_⟩
      by_cases hy : ∃ b, y = .int b
      · obtain ⟨b, rfl⟩ := hy
        rw [isFr_ints] at hd
        injection hd with hd
        walk_at "go"
        refine ⟨_, true, rfl, rfl, ?_⟩
        by_cases h0 : 0 < b
        · rw [decide_eq_true h0] at hd
          walk_at "go"
          rw [decide_eq_true h0]
          walk_at "go"
          refine ⟨a, b, rfl, ?_⟩
          walk_at "go"
          rw [show decide ((Int.gcd a b : Int) = 1) = c from hd]
          exact q
        · rw [decide_eq_false h0] at hd
          walk_at "go"
          rw [decide_eq_false h0]
          walk_at "go"
          rw [show false = c from hd]
          exact q
      · have hd : isWh y = some false ∧ false = c := by
          cases y <;> first
            | exact absurd ⟨_, rfl⟩ hy
            | (cases hd; exact ⟨rfl, rfl⟩)
            | cases hd
        walk_at "go"
        refine ⟨_, false, rfl, hd.1, ?_⟩
        walk_at "go"
        rw [hd.2]
        exact q
    · have hd : isWh x = some false ∧ false = c := by
        cases x <;> first
          | exact absurd ⟨_, rfl⟩ hx
          | (cases hd; exact ⟨rfl, rfl⟩)
          | cases hd
      refine ⟨_, false, rfl, hd.1, ?_⟩
      walk_at "go"
      rw [hd.2]
      exact q
  cases d with
  | tup l =>
    match l, hd with
    | [], hd => cases hd; unfold tb_is_fraction dE; walk_at "go"; exact q
    | [x], hd => cases hd; unfold tb_is_fraction dE; walk_at "go"; exact q
    | [x, y], hd => exact two x y hd
    | x :: y :: z :: l, hd =>
      cases hd
      unfold tb_is_fraction dE
      walk_at "rd"
      exact q
  | _ => first
    | (cases hd; unfold tb_is_fraction dE; walk_at "go"; exact q)
    | cases hd
/-- a fraction's parts -/
theorem fr_neg {t b : Int} (hb : b < 0) : fr t b = fr (-t) (-b) := by
  have key : ∀ z g : Int, z.fdiv (-g) = (-z).fdiv g := fun z g => by
    have := Int.neg_fdiv_neg (-z) g
    rw [Int.neg_neg] at this
    exact this
  unfold fr shr
  rw [if_pos hb, if_neg (by omega), Int.gcd_neg, Int.neg_gcd, key, key]
theorem fr_ex (t : Int) {b : Int} (hb : b ≠ 0) : ∃ u v : Int, fr t b = pr u v ∧ 0 < v ∧ u * b = t * v ∧ Int.gcd u v = 1 ∧ u.natAbs ≤ t.natAbs ∧ v.natAbs ≤ b.natAbs := by
  have pos : ∀ (t b : Int), 0 < b → ∃ u v : Int, fr t b = pr u v ∧ 0 < v ∧ u * b = t * v ∧ Int.gcd u v = 1 ∧ u.natAbs ≤ t.natAbs ∧ v.natAbs ≤ b.natAbs := fun t b h0 => by
    obtain ⟨s, u, v, s0, v0, e1, e2, c, d1, d2⟩ := fr_parts t h0
    refine ⟨u, v, by unfold fr; rw [d1, d2], v0, by rw [e1, e2]; ac_rfl, c, ?_, ?_⟩
    · rw [← d1]; exact fdiv_le (shr_ge h0)
    · rw [← d2]; exact fdiv_le (shr_ge h0)
  by_cases h0 : 0 < b
  · exact pos t b h0
  · obtain ⟨u, v, e, v0, h1, h2, h3, h4⟩ := pos (-t) (-b) (by omega)
    exact ⟨u, v, by rw [fr_neg (by omega), e], v0, by grind, h2, by omega, by omega⟩
/-! ### rows along points, by the law's way -/
def ptF (n : Nat) (x : Nat → Int × Int) : D := .lst ((List.range n).map fun k => prD (x k))
def pdN (x : Nat → Int × Int) : Nat → Int
  | 0 => 1
  | n + 1 => pdN x n * (x n).2
/-- the point's tops, over one bottom -/
def topN (x : Nat → Int × Int) (n : Nat) : Nat → Int := fun k => (x k).1 * (pdN x n).fdiv (x k).2
def okX (B n : Nat) (x : Nat → Int × Int) : Prop := ∀ k, k < n → 0 < (x k).2 ∧ bnd B (x k).1 ∧ bnd B (x k).2
theorem pdN_pos {x : Nat → Int × Int} : ∀ {n : Nat}, (∀ k, k < n → 0 < (x k).2) → 0 < pdN x n
  | 0, _ => Int.one_pos
  | n + 1, h => by unfold pdN; exact Int.mul_pos (pdN_pos fun k hk => h k (by omega)) (h n (by omega))
theorem pdN_dvd {x : Nat → Int × Int} : ∀ {n k : Nat}, k < n → (x k).2 ∣ pdN x n
  | n + 1, k, h => by
    unfold pdN
    by_cases e : k = n
    · subst e; exact Int.dvd_mul_left ..
    · exact Int.dvd_trans (pdN_dvd (by omega)) (Int.dvd_mul_right ..)
theorem pdN_bnd {B : Nat} {x : Nat → Int × Int} : ∀ {n : Nat}, (∀ k, k < n → bnd B (x k).2) → bnd (B * n + 1) (pdN x n)
  | 0, _ => bnd_one (by omega)
  | n + 1, h => by unfold pdN; exact bnd_mono (bnd_mul (pdN_bnd fun k hk => h k (by omega)) (h n (by omega))) (by rw [Nat.mul_succ]; omega)
theorem sum_dot (r y : Nat → Int) : ∀ n, ((List.range n).map fun k => r k * y k).sum = dot r y n
  | 0 => rfl
  | n + 1 => by
    rw [List.range_succ, List.map_append, List.sum_append, sum_dot r y n]
    show dot r y n + _ = dot r y n + r n * y n
    simp
abbrev g_alongB : DF := fun ds Q _ => ∃ (n w B : Nat) (r : Nat → Int) (x : Nat → Int × Int) (row : D), ds = [row, ptF n x] ∧ (row = .tup (tabD w r) ∨ row = .lst (tabD w r)) ∧ n ≤ w ∧ n ≤ 9 ∧ B ≤ 4000 ∧ (∀ j, bnd 4000 (r j)) ∧ okX B n x ∧
  Q (.tup [.int (dot r (topN x n) n), .int (pdN x n)])
abbrev N_alongB : List Str := ["_law_row", "_law_point", "_law_bottom", "_law_number_here", "_law_k"]
def tb_alongB : DS :=
  (dSq (dSet 2 (dC (.int 1))) (dSq (dFor (dSeq (dVar 1)) (gNm 3) (dSet 2 (dOp kMul (dVarP 2) (dOp kIx (dVarP 3) (dC (.int 1)))))) (dRet (dTup (dCons (dCB kSum (dCons (dFz (dLcN (dRng1 (dCB kLen (dCons (dVarP 1) dNil))) (gNm 4) dYes (dOp kMul (dOp kMul (dOp kIx (dVarP 0) (dVarP 4)) (dOp kIx (dOp kIx (dVarP 1) (dVarP 4)) (dC (.int 0)))) (dOp kDiv (dVarP 2) (dOp kIx (dOp kIx (dVarP 1) (dVarP 4)) (dC (.int 1))))) [4])) dNil)) (dCons (dVar 2) dNil))))))
theorem rd_alongB (ds : List D) (Q E : EQ) (_ : ds.length = 2) (h : g_alongB ds Q E) : tb_alongB (dE Q E) (startD N_alongB ds) := by
  obtain ⟨n, w, B, r, x, row, rfl, hrow, hw, hn, hB, hr, hx, q⟩ := h
  have e2 : ∀ k, k < n → (fun Q : EQ => kIx row (.int (k : Int)) Q) = fun Q => Q (.int (r k)) := fun k hk => by
    rcases hrow with rfl | rfl
    · funext Q; show asO Q (atI (tabD w r) (k : Int)) = _; rw [atI_nn, tab_get (by omega)]; rfl
    · funext Q; show asO Q (atI (tabD w r) (k : Int)) = _; rw [atI_nn, tab_get (by omega)]; rfl
  unfold tb_alongB dE ptF
  walk_at "go"
  refine loop_ix (fun k ρ => ∃ s3, ρ = [.sh row, .sh (ptF n x), .sh (.int (pdN x k)), s3, .no]) _ ?_ ?_ ⟨_, rfl⟩
  · rintro ρ ⟨s3, rfl⟩
    rw [rng_len]
    unfold ptF
    walk_at "rd"
    rw [rng_len]
    refine ⟨by omega, by omega, ?_⟩
    rw [show (n : Int).toNat = n from rfl]
    refine comp_ix (fun k => .int (r k * topN x n k)) _ (fun k d hd K1 K0 hK => ?_) ?_
    · obtain ⟨hk, rfl⟩ := irg_inv hd
      rw [Int.zero_add]
      obtain ⟨x0, x1, x2⟩ := hx k hk
      have bP := pdN_bnd fun k hk => (hx k hk).2.2
      have bq : bnd 36001 ((pdN x n).fdiv (x k).2) := bnd_le (fdiv_le (by omega)) (bnd_mono bP (by have := Nat.mul_le_mul hB hn; omega))
      have b1 := bnd_mono x1 hB
      have m1 := mul_of (hr k) b1 (by decide)
      have m2 := mul_of (bnd_mul (hr k) b1) bq (by decide)
      have dv : divOk (x k).2 := div_of (by omega) (bnd_mono x2 (by omega))
      walk_at "rd"
      show kIx row (.int (k : Int)) _
      rw [congrFun (e2 k hk)]
      walk_at "rd"
      rw [atI_nn, rng_get hk]
      unfold prD
      walk_at "go"
      rw [atI_nn, rng_get hk]
      walk_at "go"
      unfold topN at hK
      rw [← Int.mul_assoc] at hK
      exact hK
    · rw [irg_len]
      walk_at "rd"
      have e : (List.range n).map (fun k => D.int (r k * topN x n k)) = ((List.range n).map fun k => r k * topN x n k).map D.int := by rw [List.map_map]; rfl
      rw [e, intsOf_map]
      walk_at "go"
      rw [sum_dot]
      exact q
  · rintro k d ρ hd ⟨s3, rfl⟩ N hN
    obtain ⟨hk, rfl⟩ := rng_inv hd
    obtain ⟨x0, x1, x2⟩ := hx k hk
    have bP := pdN_bnd (B := B) (x := x) (n := k) fun j hj => (hx j (by omega)).2.2
    have m1 := mul_of bP x2 (by have := Nat.mul_le_mul hB (show k ≤ 9 by omega); omega)
    unfold prD
    walk_at "go"
    exact hN _ ⟨_, rfl⟩
end Dl

/-! The D-layer, part 30: a, b = a list or a tuple. -/
namespace Dl
open PySem PySem.Spec
open PyProof.Rows L2
section
variable {X : Cx} {es : List Expr} {pos : Pos}
theorem pg_or {e : Expr} {t t' : TG} (h : PG X e t) (h' : PG X e t') : PG X e (fun v σ H Q => t v σ H Q ∨ t' v σ H Q) :=
  ⟨fun pins s σ H v u Q I r q => q.elim (fun q => h.run pins s σ H v u Q I r q) fun q => h'.run pins s σ H v u Q I r q⟩
def gTq (n : Nat) (u : List D → Env' → (Env' → Prop) → Prop) : DG := fun d ρ Q => match d with
  | .tup ds => ds.length = n ∧ u ds ρ Q
  | .lst ds => ds.length = n ∧ u ds ρ Q
  | .frl ds => ds.length = n ∧ u ds ρ Q
  | _ => False
theorem rg_tuq {k n : Nat} {js : List Nat} {u : List D → Env' → (Env' → Prop) → Prop} (h : RGs X es js u) (hc : X.calm = true := by rfl) (hn : (assignEach es X.env).length = n := by rfl) (hst : (assignEach es X.env).findIdx? (·.1) = none := by rfl) : RG X (.Tuple es k pos) js (gTq n u) := by
  obtain ⟨g1, h1, h2⟩ := h.run
  refine ⟨_, pg_or (pg_tup hc h1 hn hst) (pg_lst hc h1 hn hst), fun ρ σ F H d v Qd Q hl e r kk q => ?_⟩
  cases d <;> first | exact False.elim q | skip
  · cases r with
    | tup s l r => exact .inl ⟨_, _, rfl, SqT.of (e _ _ s), by rw [r.length]; exact q.1, h2 ρ σ F H _ _ _ _ hl e r kk q.2⟩
  · cases r with
    | lst s l r => exact .inr ⟨_, _, rfl, SqL.of (e _ _ s), by rw [r.length]; exact q.1, h2 ρ σ F H _ _ _ _ hl e r kk q.2⟩
  · cases r with
    | frl s l r => exact .inr ⟨_, _, rfl, same_seqL e s, by rw [r.length]; exact q.1, h2 ρ σ F H _ _ _ _ hl e r kk q.2⟩
end
end Dl

/-! The D-layer, part 31: try, except; classes made. -/
namespace Dl
open PySem PySem.Spec
open PyProof.Rows L2
/-! ### a slot is cleared -/
theorem Ent.clear {K : PySem.W.Frag} {F0 H0 : Hp} {ρ : Env'} {σ : L2.St} {F H : Hp} (e : Ent K F0 H0 ρ σ F H) (i : Nat) : Ent K F0 H0 (ρ.set i .no) (σ.set i none) F H := by
  have low : ∀ {j : Nat} {s : Sl}, s ≠ .no → (ρ.set i .no)[j]? = some s → j ≠ i ∧ ρ[j]? = some s := fun {j s} hs h => by
    by_cases hj : i = j
    · subst hj
      have hl := (List.getElem?_eq_some_iff.mp h).1
      rw [List.length_set] at hl
      rw [List.getElem?_set_self hl] at h
      exact absurd (Option.some.inj h).symm hs
    · rw [List.getElem?_set_ne hj] at h; exact ⟨Ne.symm hj, h⟩
  have up : ∀ {j : Nat} {x : Option (Option V)}, j ≠ i → ((σ.set i none)[j]? = x ↔ σ[j]? = x) := fun {j x} hj => by rw [List.getElem?_set_ne (Ne.symm hj)]
  refine ⟨⟨by rw [List.length_set, List.length_set]; exact e.rl.len, e.rl.fh, fun j d h => ?_, fun j ds h => ?_, fun j C fs h => ?_, fun j kvs h => ?_, fun j k s t v h1 o1 h2 o2 g1 g2 => ?_⟩, e.go, fun j s p h o hs => ?_⟩
  · obtain ⟨hj, h⟩ := low (s := .sh d) (fun z => nomatch z) h
    obtain ⟨v, a, b⟩ := e.rl.sh j d h
    exact ⟨v, (up hj).mpr a, b⟩
  · obtain ⟨hj, h⟩ := low (s := .ow ds) (fun z => nomatch z) h
    obtain ⟨p, vs, a, b⟩ := e.rl.ow j ds h
    exact ⟨p, vs, (up hj).mpr a, b⟩
  · obtain ⟨hj, h⟩ := low (s := .oi C fs) (fun z => nomatch z) h
    obtain ⟨p, dx, vs, a, b⟩ := e.rl.oi j C fs h
    exact ⟨p, dx, vs, (up hj).mpr a, b⟩
  · obtain ⟨hj, h⟩ := low (s := .od kvs) (fun z => nomatch z) h
    obtain ⟨p, vs, a, b⟩ := e.rl.od j kvs h
    exact ⟨p, vs, (up hj).mpr a, b⟩
  · obtain ⟨hj, h1⟩ := low (fun z => by subst z; cases o1) h1
    obtain ⟨hk, h2⟩ := low (fun z => by subst z; cases o2) h2
    exact e.rl.inj j k s t v h1 o1 h2 o2 ((up hj).mp g1) ((up hk).mp g2)
  · obtain ⟨hj, h⟩ := low (fun z => by subst z; cases o) h
    exact e.new j s p h o ((up hj).mp hs)
def liftS (K : PySem.W.Frag) (W : WX) (t : DS) : TS := fun D σ H => ∃ (F0 H0 : Hp) (ρ : Env') (F : Hp) (d : DE), Ent K F0 H0 ρ σ F H ∧ Cnt K W F0 H0 d D ∧ t d ρ
theorem RSs.lift {X : Cx} {W : WX} {b : List Stmt} {t : DS} (h : RSs X W b t) : PSs X b (liftS X.K W t) := by
  obtain ⟨ts, h1, h2⟩ := h.run
  exact ⟨fun pins s σ H D I ⟨F0, H0, ρ, F, d, en, c, q⟩ => h1.run pins s σ H D I (h2 F0 H0 ρ σ F H D d en c q)⟩
section
variable {X : Cx} {W : WX} {body suite : List Stmt} {b₀ : Stmt} {pos pos' np : Pos} {t : DS}
/-! ### try -/
/-- what an except clause makes of an exception -/
def onX (K : PySem.W.Frag) (c : Value) (u : Addr → Addr → Env' → Prop) (E : EQ) : EQ
  | .ins C [] => ∃ b, PySem.W.exmOne K (.ref C) c = some b ∧ ifP b (∀ a, u a C []) (E (.ins C []))
  | _ => False
def dTryAs (K : PySem.W.Frag) (i : Nat) (c : Value) (t : DS) (u : Addr → Addr → DS) : DS := fun d ρ =>
  t { d with ex := fun ρ' => onX K c (fun a C _ => u a C ⟨fun ρ2 => d.nx (ρ2.set i .no), d.rt, fun ρ2 => d.bk (ρ2.set i .no), fun ρ2 => d.ct (ρ2.set i .no), fun _ _ => False, d.rt1, d.rt2⟩ (ρ'.set i (.sh (.ob (.ref a))))) (d.ex ρ') } ρ
theorem onX_inv {K : PySem.W.Frag} {c : Value} {u : Addr → Addr → Env' → Prop} {E : EQ} {x : D} (h : onX K c u E x) : ∃ C b, x = .ins C [] ∧ PySem.W.exmOne K (.ref C) c = some b ∧ (b = true → ∀ a, u a C []) ∧ (b = false → E (.ins C [])) := by
  cases x <;> first | exact False.elim h | skip
  rename_i C fs
  cases fs with
  | cons f fs => exact False.elim h
  | nil =>
    obtain ⟨b, h1, h2⟩ := h
    refine ⟨C, b, rfl, h1, fun e => ?_, fun e => ?_⟩
    · subst e; exact h2
    · subst e; exact h2
theorem xrep_bare {K : PySem.W.Frag} {F H : Hp} {C : Addr} {cls : Value} {dx : Option Addr} (h : XRep K F H (.ins C []) cls dx) : cls = .ref C ∧ dx = none := by
  cases h with
  | bare => exact ⟨rfl, rfl⟩
  | full h => exact absurd rfl h
theorem rs_tryAs (i : Nat) {x n : Str} {c : Value} {u : Addr → Addr → DS} (hN : X.N.Nodup) (hm : X.mg x = some c) (tk : Takes X W)
    (hb : ∀ (W : WX) (pn : List (Addr × Obj)) (xe : Value → Shared → Prop), Takes (X.tr pn xe) W → PassesOwn (model X.prog X.w) X.A X.env xe → RSs (X.tr pn xe) W body t)
    (hu : ∀ (a : Addr) (oe : Obj) (C : Addr) (pn : List (Addr × Obj)), Zc (.ref C) none oe → (∃ vs, oe.data = .fields vs) → RSs (X.suite a ((a, oe) :: pn)) (fun _ _ _ _ => False) (b₀ :: suite) (u a C))
    (hs : X.stack = X.env :: X.outer := by rfl) (hf : X.env.frame = some X.env.locals := by rfl) (hi : X.N[i]? = some n := by rfl) (hln : X.env.kindOf n = some .local := by rfl) (hg : Gl X x := by rfl) (hdb : (x == ("__debug__" : Str)) = false := by decide) :
    RS X W (.Try body [.ExceptHandler (some (.Name x np)) (some n) (b₀ :: suite) pos'] [] [] pos) (dTryAs X.K i c t u) := by
  refine ⟨_, ps_try_as (tb := fun W => liftS X.K W t) (ts := fun a cls d D σ H => ∃ C, cls = .ref C ∧ d = none ∧ liftS X.K (fun _ _ _ _ => False) (u a C) D σ H) (Wout := W) hs hf hN hi hln ⟨hg, hdb, .inl hm⟩ tk (fun W pn xe tk po => (hb W pn xe tk po).lift) (fun a oe cls d pn hz hv => ⟨fun pins s σ H D I h => ?_⟩), fun F0 H0 ρ σ F H D d en cc q => ?_⟩
  · obtain ⟨C, rfl, rfl, h⟩ := h
    exact (hu a oe C pn hz hv).lift.run pins s σ H D I h
  · refine ⟨F0, H0, ρ, F, { d with ex := fun ρ' => onX X.K c (fun a C _ => u a C ⟨fun ρ2 => d.nx (ρ2.set i .no), d.rt, fun ρ2 => d.bk (ρ2.set i .no), fun ρ2 => d.ct (ρ2.set i .no), fun _ _ => False, d.rt1, d.rt2⟩ (ρ'.set i (.sh (.ob (.ref a))))) (d.ex ρ') }, en, ⟨cc.nx, cc.rt, cc.bk, cc.ct, fun ρ1 σ1 F1 H1 en1 => ?_, cc.rt1, cc.rt2⟩, q⟩
    intro x cls dx F2 H2 g xr ex
    dsimp only at ex
    obtain ⟨C, b, rfl, h1, h2, h3⟩ := onX_inv ex
    obtain ⟨rfl, rfl⟩ := xrep_bare xr
    refine ⟨b, h1, fun hb a na => ⟨C, rfl, rfl, F0, H0, _, F2, ⟨fun ρ2 => d.nx (ρ2.set i .no), d.rt, fun ρ2 => d.bk (ρ2.set i .no), fun ρ2 => d.ct (ρ2.set i .no), fun _ _ => False, d.rt1, d.rt2⟩, (en1.step g).set i (.ob (.ref a)), ⟨fun ρ σ F H e q => cc.nx _ _ F H (e.clear i) q, cc.rt, fun ρ σ F H e q => cc.bk _ _ F H (e.clear i) q, fun ρ σ F H e q => cc.ct _ _ F H (e.clear i) q, fun _ _ _ _ _ _ _ _ _ _ _ _ z => z.elim, cc.rt1, cc.rt2⟩, h2 hb a⟩, fun hb => ?_⟩
    exact cc.ex ρ1 σ1 F1 H1 en1 _ _ _ F2 H2 g (.bare C) (h3 hb)
def dTryN (K : PySem.W.Frag) (c : Value) (t : DS) (u : Addr → Addr → DS) : DS := fun d ρ =>
  t { d with ex := fun ρ' => onX K c (fun a C _ => u a C ⟨d.nx, d.rt, d.bk, d.ct, fun _ _ => False, d.rt1, d.rt2⟩ ρ') (d.ex ρ') } ρ
theorem rs_tryN {x : Str} {c : Value} {u : Addr → Addr → DS} (hm : X.mg x = some c) (tk : Takes X W)
    (hb : ∀ (W : WX) (pn : List (Addr × Obj)) (xe : Value → Shared → Prop), Takes (X.tr pn xe) W → PassesOwn (model X.prog X.w) X.A X.env xe → RSs (X.tr pn xe) W body t)
    (hu : ∀ (a : Addr) (oe : Obj) (C : Addr) (pn : List (Addr × Obj)), Zc (.ref C) none oe → (∃ vs, oe.data = .fields vs) → RSs (X.suite a ((a, oe) :: pn)) (fun _ _ _ _ => False) (b₀ :: suite) (u a C))
    (hs : X.stack = X.env :: X.outer := by rfl) (hf : X.env.frame = some X.env.locals := by rfl) (hg : Gl X x := by rfl) (hdb : (x == ("__debug__" : Str)) = false := by decide) :
    RS X W (.Try body [.ExceptHandler (some (.Name x np)) none (b₀ :: suite) pos'] [] [] pos) (dTryN X.K c t u) := by
  refine ⟨_, ps_try_only (tb := fun W => liftS X.K W t) (ts := fun a cls d D σ H => ∃ C, cls = .ref C ∧ d = none ∧ liftS X.K (fun _ _ _ _ => False) (u a C) D σ H) (Wout := W) hs hf ⟨hg, hdb, .inl hm⟩ tk (fun W pn xe tk po => (hb W pn xe tk po).lift) (fun a oe cls d pn hz hv => ⟨fun pins s σ H D I h => ?_⟩), fun F0 H0 ρ σ F H D d en cc q => ?_⟩
  · obtain ⟨C, rfl, rfl, h⟩ := h
    exact (hu a oe C pn hz hv).lift.run pins s σ H D I h
  · refine ⟨F0, H0, ρ, F, { d with ex := fun ρ' => onX X.K c (fun a C _ => u a C ⟨d.nx, d.rt, d.bk, d.ct, fun _ _ => False, d.rt1, d.rt2⟩ ρ') (d.ex ρ') }, en, ⟨cc.nx, cc.rt, cc.bk, cc.ct, fun ρ1 σ1 F1 H1 en1 => ?_, cc.rt1, cc.rt2⟩, q⟩
    intro x cls dx F2 H2 g xr ex
    dsimp only at ex
    obtain ⟨C, b, rfl, h1, h2, h3⟩ := onX_inv ex
    obtain ⟨rfl, rfl⟩ := xrep_bare xr
    refine ⟨b, h1, fun hb a na => ⟨C, rfl, rfl, F0, H0, ρ1, F2, ⟨d.nx, d.rt, d.bk, d.ct, fun _ _ => False, d.rt1, d.rt2⟩, en1.step g, ⟨cc.nx, cc.rt, cc.bk, cc.ct, fun _ _ _ _ _ _ _ _ _ _ _ _ z => z.elim, cc.rt1, cc.rt2⟩, h2 hb a⟩, fun hb => ?_⟩
    exact cc.ex ρ1 σ1 F1 H1 en1 _ _ _ F2 H2 g (.bare C) (h3 hb)
/-- isinstance(e, T), e the exception in hand -/
def kIsE (K : PySem.W.Frag) (a C : Addr) : KC := k2c fun x c Q => x = .ob (.ref a) ∧ ExcC K C ∧ (match c with
  | .cls C' => ∃ b, PySem.W.kitOne K (.ref C) (.ref C') = some b ∧ Q (.bl b)
  | .ty n => ∃ b, PySem.W.kitOne K (.ref C) (.type n) = some b ∧ Q (.bl b)
  | _ => False)
theorem cd_isE {K : PySem.W.Frag} {a C : Addr} {oe : Obj} {pn : List (Addr × Obj)} (hz : Zc (.ref C) none oe) (hf : ∃ vs, oe.data = .fields vs) (hK : X.K = K := by rfl) : CallD (X.suite a ((a, oe) :: pn)) (.builtin "isinstance") (kIsE K a C) := by
  subst hK
  refine ⟨fun xs H Q => ExcC X.K C ∧ rIsE X.K C a xs H Q, fun pins s σ H xs us Q I r h => call_isE (X := X) h.1 hz hf pins s σ H xs us Q I r h.2, fun ds vs F H Qd Q e ps kk q => ?_⟩
  obtain ⟨x, c, rfl, rfl, hE, q⟩ := k2c_inv q
  obtain ⟨vx, vc, rfl, px, pc⟩ := pks2 ps
  have rx := px.rep e
  have rc := pc.rep e
  cases rx
  refine ⟨hE, ?_⟩
  cases c <;> first | exact q.elim | skip
  · obtain ⟨b, h1, h2⟩ := q
    cases rc
    exact ⟨_, _, b, rfl, fun u hu => hu, h1, kk _ _ F H (.refl e) (.bl b) h2⟩
  · obtain ⟨b, h1, h2⟩ := q
    cases rc
    exact ⟨_, _, b, rfl, fun u hu => hu, h1, kk _ _ F H (.refl e) (.bl b) h2⟩
end
end Dl

/-! The D-layer, part 32: __init__ keeps its promise. -/
namespace Dl
open PySem PySem.Spec
open PyProof.Rows L2
def startI (C : Addr × Addr) (N : List Str) (ds : List D) : Env' := .oi C [] :: (ds.map .sh ++ List.replicate (N.length - (ds.length + 1)) .no)
/-- behind an __init__ -/
def atI0 (C : Addr × Addr) (Q : List (Str × D) → Prop) (ρ : Env') : Prop := match ρ with
  | .oi C' fs :: _ => C' = C ∧ Q fs
  | _ => False
abbrev dEI (C : Addr × Addr) (Q : List (Str × D) → Prop) (E : EQ) : DE := ⟨atI0 C Q, fun _ => False, fun _ => False, fun _ => False, fun _ => E, fun _ => False, fun _ _ => False⟩
theorem Rl.oi0 {K : PySem.W.Frag} {d : D} {ρ : Env'} {σ : L2.St} {F H : Hp} {x C dx : Addr} (r : Rl K (.sh d :: ρ) σ F H) (no : ∀ (i : Nat) (s : Sl), ρ[i]? = some s → ¬ s.own = true) (hs : σ[0]? = some (some (.ref x))) (hx : H x = some (.ins C dx [])) (fx : F x = none) :
    Rl K (.oi (C, x) [] :: ρ) σ F H where
  len := r.len
  fh := r.fh
  sh := fun i d' e => match i, e with
    | i + 1, e => r.sh (i + 1) d' e
  ow := fun i ds e => match i, e with
    | i + 1, e => absurd rfl (no i _ e)
  oi := fun i C' fs e => match i, e with
    | 0, e => by cases e; exact ⟨x, dx, [], hs, hx, fx, .nil, rfl⟩
    | i + 1, e => absurd rfl (no i _ e)
  od := fun i kvs e => match i, e with
    | i + 1, e => absurd rfl (no i _ e)
  inj := fun i j s t v h1 o1 h2 o2 _ _ => match i, j, h1, h2 with
    | 0, 0, _, _ => rfl
    | i + 1, _, h1, _ => absurd o1 (no i _ h1)
    | _, j + 1, _, h2 => absurd o2 (no j _ h2)
theorem def_okI {P : Program} {w : World} {K : PySem.W.Frag} {mg : Str → Option Value} {base : Heap} {name qual : Str} {st : Stmt} {f C : Addr} {N ps : List Str} {k n : Nat} {G : DI} {tb : DS} {oc dV kV doc pm cdv ct : Value} {od an : Option Addr} {osl : Array (Option Value)}
    (lk : K.lookup f = some ⟨oc, od, .func (PySem.W.fnOf name qual (defArgs st) (defBody st) (defScope st) dV kV doc pm an cdv ct), osl⟩) (hcd : PySem.W.codeIn K cdv qual = true) (S : FnScope N ps (defScope st)) (hn : ps.length = n)
    (body : ∀ (cdv : Value) (A : Around) (outer : List Env) (s : Shared) (H : Hp) (E : XK), Room k (A.deeper (envOfC qual (defScope st) s.heap.objs.size f cdv)) → RSs (cxOf (L2.CX P w) P w K mg base N qual (defScope st) f cdv A outer s H E) (WF E) (defBody st) tb)
    (read : ∀ x ds Q E, ds.length + 1 = n → G ds Q E → tb (dEI (C, x) Q E) (startI (C, x) N ds)) :
    FnOk P w K mg base (L2.CX P w) (k + 1) f (PySem.W.fnOf name qual (defArgs st) (defBody st) (defScope st) dV kV doc pm an cdv ct) ps (spI K n C G) := by
  refine fn_of lk hcd S (fun vs H Q E h => ?_) fun A outer s H vs Q E hr h => ?_
  · obtain ⟨ds, F, H1, x, dx, us, Qd, Ed, rfl, _, _, _, _, _, r, hl, _⟩ := h
    rw [List.length_cons, r.length, hl, hn]
  · obtain ⟨ts, h1, h2⟩ := (body cdv A outer s H E hr).run
    refine ⟨ts, h1, ?_⟩
    obtain ⟨ds, F1, H1, x, dx, us, Qd, Ed, rfl, hH, nx, ndx, ne, sf, r, hl, g, k1, k2⟩ := h
    have s1 : Same H1 H := by
      rw [hH]
      exact (same_upd ndx).trans (same_upd (by rw [upd_ne (Ne.symm ne)]; exact nx))
    have hx : H x = some (.ins C dx []) := by rw [hH]; exact upd_same
    have fx : F1 x = none := by
      cases e : F1 x with
      | none => rfl
      | some o => have := sf _ _ e; rw [nx] at this; cases this
    have sfH : Same F1 H := sf.trans s1
    have rl := start_rl (N := N) sfH (Reps.cons (Rep.ob (.ref x)) r)
    have no : ∀ (i : Nat) (s : Sl), (ds.map Sl.sh ++ List.replicate (N.length - (ds.length + 1)) Sl.no)[i]? = some s → ¬ s.own = true := fun i s h => start_own (N := N) (ds := .ob (.ref x) :: ds) (i := i + 1) h
    have hs0 : (L2.start N (V.ref x :: us))[0]? = some (some (.ref x)) := by
      unfold L2.start
      rfl
    have rl2 : Rl K (startI (C, x) N ds) (L2.start N (.ref x :: us)) F1 H := rl.oi0 no hs0 hx fx
    have go : Go F1 H1 F1 H := ⟨Same.refl _, s1, sfH, fun _ h _ => h⟩
    refine h2 F1 H1 (startI (C, x) N ds) _ F1 H _ (dEI (C, x) Qd Ed) ⟨rl2, go, fun i s p h o hs => ?_⟩ ⟨fun ρ σ F' H' e q => ?_, fun _ _ _ _ _ _ q => q.elim, fun _ _ _ _ _ q => q.elim, fun _ _ _ _ _ q => q.elim, fun ρ σ F' H' e x cls dx F2 H2 g r q => k2 x cls dx F2 H2 (e.go.trans g) r q, fun _ _ _ _ _ _ q => q.elim, fun _ _ _ _ _ _ _ _ _ _ _ _ q => q.elim⟩ (read x ds Qd Ed hl g)
    · cases i with
      | zero =>
        rw [hs0] at hs
        cases hs
        exact nx
      | succ i => exact absurd o (no i s h)
    · have q : atI0 (C, x) Qd ρ := q
      unfold atI0 at q
      split at q
      · rename_i C' fs tl hq
        obtain ⟨rfl, q⟩ := q
        obtain ⟨p, dx', ws, g1, g2, g3, g4, rfl⟩ := e.rl.oi 0 (C, x) fs rfl
        exact k1 fs ws F' H' dx' e.go g2 g3 g4 q
      · exact q.elim
end Dl

/-! The D-layer, part 33: what classes answer to isinstance and except. -/
namespace Dl
open PySem PySem.Spec
open PyProof.Rows L2
theorem kitcls_of {K : PySem.W.Frag} {t : Value} {C : Addr} {b : Bool} (h2 : PySem.W.isClsIn K C = true) (h3 : PySem.W.typeIn K (.ref C) = some (.type "type")) (h4 : PySem.W.subIn K t (.ref C) = some b) : PySem.W.kitCls K t (.ref C) = some b := by
  have e2 : ((PySem.W.clsIn K C).isSome && PySem.W.typeIn K (.ref C) == some (.type "type")) = true := by
    have h2' : (PySem.W.clsIn K C).isSome = true := h2
    rw [h2', h3] <;> rfl
  show (if ((PySem.W.clsIn K C).isSome && PySem.W.typeIn K (.ref C) == some (.type "type")) = true then PySem.W.subIn K t (.ref C) else none) = some b
  rw [if_pos e2]
  exact h4
theorem kit_of {K : PySem.W.Frag} {t : Value} {C : Addr} {b : Bool} (h2 : PySem.W.isClsIn K C = true) (h3 : PySem.W.typeIn K (.ref C) = some (.type "type")) (h4 : PySem.W.subIn K t (.ref C) = some b) (hne : (t == .ref C) = true → b = true) : PySem.W.kitOne K t (.ref C) = some b := by
  unfold PySem.W.kitOne
  by_cases h : (t == .ref C) = true
  · rw [if_pos h, hne h]
  · rw [if_neg h]; exact kitcls_of h2 h3 h4
theorem kit_ofT {K : PySem.W.Frag} {C : Addr} {n : String} {b : Bool} (hm : PySem.W.kitMeta n = true) (h4 : PySem.W.subIn K (.ref C) (.type n) = some b) : PySem.W.kitOne K (.ref C) (.type n) = some b := by
  unfold PySem.W.kitOne
  rw [if_neg (show ¬ ((Value.ref C == Value.type n) = true) from fun z => nomatch (beq_iff_eq.mp z))]
  show (if PySem.W.kitMeta n = true then PySem.W.subIn K (.ref C) (.type n) else none) = some b
  rw [if_pos hm]
  exact h4
theorem exm_of {K : PySem.W.Frag} {t : Value} {C : Addr} {b : Bool} (h1 : PySem.W.subIn K (.ref C) (.type "BaseException") = some true) (h2 : PySem.W.isClsIn K C = true) (h3 : PySem.W.typeIn K (.ref C) = some (.type "type")) (h4 : PySem.W.subIn K t (.ref C) = some b) : PySem.W.exmOne K t (.ref C) = some b := by
  unfold PySem.W.exmOne
  rw [h1, if_pos (by rfl)]
  exact kitcls_of h2 h3 h4
end Dl

/-! The D-layer, part 34: a tuple times 0, 1; a list == []. -/
namespace Dl
open PySem PySem.Spec
open PyProof.Rows L2
theorem tuple_mul1 (l : Addr) (items : Array Value) (n : Nat) (dd : Option Addr) (sl : Array (Option Value)) (u : Tok) :
    Meets (Builtin.«tuple.__mul__» ⟨[.ref l, .int 1 u], []⟩) (fun _ R s => s.heap.get? l = some { cls := .type "tuple", dict := dd, data := .seq items n, slots := sl } ∧ R (.ok (.ret (Value.ref l))) s) :=
  .of_wp fun prog w A R s h => by
    obtain ⟨hp, g, d, tk, os⟩ := s
    obtain ⟨hl, h⟩ := h
    have f1 := AutoSeq1.idx_int
    wp_walk using wpAny_loadPart' hl
    repeat (first
      | (refine wpAny_ite_false (by decide) ?_; wp_walk using wpAny_loadPart' hl)
      | (refine wpAny_ite_true (by simp) ?_; wp_walk using wpAny_loadPart' hl))
    exact ⟨_, rfl, h⟩
theorem tuple_mul0 (l : Addr) (items : Array Value) (n : Nat) (dd : Option Addr) (sl : Array (Option Value)) (u : Tok) (c1 : items.isEmpty = false) :
    Meets (Builtin.«tuple.__mul__» ⟨[.ref l, .int 0 u], []⟩) (fun _ R s => s.heap.get? l = some { cls := .type "tuple", dict := dd, data := .seq items n, slots := sl } ∧
      R (.ok (.ret (Value.ref s.heap.objs.size))) { s with heap := s.heap.push { cls := Value.type "tuple", data := Data.seq #[] }, toks := s.toks }) :=
  .of_wp fun prog w A R s h => by
    obtain ⟨hp, g, d, tk, os⟩ := s
    obtain ⟨hl, h⟩ := h
    have f1 := AutoSeq1.idx_int
    wp_walk using wpAny_loadPart' hl
    repeat (first
      | (refine wpAny_ite_false (by decide) ?_; wp_walk using wpAny_loadPart' hl)
      | (refine wpAny_ite_false (by rw [c1]; decide) ?_; wp_walk using wpAny_loadPart' hl)
      | (refine wpAny_ite_true (by simp) ?_; wp_walk using wpAny_loadPart' hl))
    exact ⟨_, rfl, h⟩
section
variable {X : Cx}
/-- tuple * 1 is the tuple -/
theorem op_repT1 : OpR X (binaryOp .Mult) (fun x y H Q => ∃ l xs, x = .ref l ∧ y = .int 1 ∧ SqT X.K H l xs ∧ Q (.ref l) H) := by
  intro pins s σ H x y v u Q I rx ry h
  obtain ⟨l, xs, rfl, rfl, hT, q⟩ := h
  cases rx
  obtain ⟨t, rfl⟩ := ry
  obtain ⟨its, r, ⟨⟨cls, dd, data, sl⟩, ho, hc, n, hd⟩, hs⟩ := I.tuple hT
  simp only at hc hd
  subst hc hd
  exact wpAny_binaryOp_repeat_ref (T := "tuple") (U := "int") (by decide) ⟨_, ho, rfl⟩ (fun s' => typeIs_int s' 1 t) noFill_tuple_mul F.fills_int_mul F.slot_int_rmul repeat_tuple F.slot_int_index.lookup
    (call_meets F.slot_int_rmul (typeIs_int s 1 t) F.entry_int_rmul (F.args_int_rmul_2 _ _) (int_rmul_tuple 1 t l its.toArray n dd sl)
      ⟨ho, rfl, ⟨_, ho, rfl⟩, call_meets F.slot_tuple_mul ⟨_, ho, rfl⟩ F.entry_tuple_mul (F.args_tuple_mul_2 _ _) (tuple_mul1 l its.toArray n dd sl t) ⟨ho, .ref l, H, I, rfl, q⟩⟩)
theorem op_repT0 : OpR X (binaryOp .Mult) (fun x y H Q => ∃ l xs, x = .ref l ∧ y = .int 0 ∧ SqT X.K H l xs ∧ xs ≠ [] ∧ ∀ p, H p = none → Q (.ref p) (upd H p (.tup []))) := by
  intro pins s σ H x y v u Q I rx ry h
  obtain ⟨l, xs, rfl, rfl, hT, hne, q⟩ := h
  cases rx
  obtain ⟨t, rfl⟩ := ry
  obtain ⟨its, r, ⟨⟨cls, dd, data, sl⟩, ho, hc, n, hd⟩, hs⟩ := I.tuple hT
  simp only at hc hd
  subst hc hd
  have hle : its.length = xs.length := r.length.symm
  have hn : its ≠ [] := fun e => hne (by
    rw [e] at hle
    exact List.eq_nil_of_length_eq_zero hle.symm)
  have hi : its.toArray.isEmpty = false := by
    cases its with
    | nil => exact absurd rfl hn
    | cons a b => rfl
  refine wpAny_binaryOp_repeat_ref (T := "tuple") (U := "int") (by decide) ⟨_, ho, rfl⟩ (fun s' => typeIs_int s' 0 t) noFill_tuple_mul F.fills_int_mul F.slot_int_rmul repeat_tuple F.slot_int_index.lookup
    (call_meets F.slot_int_rmul (typeIs_int s 0 t) F.entry_int_rmul (F.args_int_rmul_2 _ _) (int_rmul_tuple 0 t l its.toArray n dd sl)
      ⟨ho, rfl, ⟨_, ho, rfl⟩, call_meets F.slot_tuple_mul ⟨_, ho, rfl⟩ F.entry_tuple_mul (F.args_tuple_mul_2 _ _) (tuple_mul0 l its.toArray n dd sl t hi) ⟨ho, ?_⟩⟩)
  refine ⟨.ref s.heap.objs.size, _, I.laid (t' := s.toks) (o := .tup []) (fun b ob q => Heap.get?_push_of_some _ q) (Nat.le_refl _) ?_, rfl, q _ (I.hok.fresh (Nat.le_refl _))⟩
  exact ⟨Nat.zero_le _, [], .nil, IsTup.new _ _⟩
theorem opd_mulT1 : OpD X (binaryOp .Mult) (fun x y Q => match x, y with | .tup a, .int 1 => Q (.tup a) | _, _ => False) := by
  refine ⟨_, op_repT1, fun x y vx vy F H Qd Q e px py kk q => ?_⟩
  dsimp only at q
  split at q
  · rename_i a
    obtain ⟨p, vs, rfl, h1, l1, r1⟩ := px.tup e
    cases py.int
    exact ⟨p, vs, rfl, rfl, h1, kk _ _ F H (.refl e) (by rcases px with px | ⟨_, _, _, z, _⟩; exact px; cases z) q⟩
  · exact q.elim
theorem opd_mulT0 : OpD X (binaryOp .Mult) (fun x y Q => match x, y with | .tup a, .int 0 => a ≠ [] ∧ Q (.tup []) | _, _ => False) := by
  refine ⟨_, op_repT0, fun x y vx vy F H Qd Q e px py kk q => ?_⟩
  dsimp only at q
  split at q
  · rename_i a
    obtain ⟨p, vs, rfl, h1, l1, r1⟩ := px.tup e
    cases py.int
    refine ⟨p, vs, rfl, rfl, h1, fun z => q.1 (by subst z; cases r1; rfl), fun l nl => ?_⟩
    obtain ⟨g, r⟩ := Go.tup e (K := X.K) (F := F) (ds := []) .nil (Nat.zero_le _) nl
    exact kk _ _ _ _ g r q.2
  · exact q.elim
/-- tuple * int, from 0 on -/
def kMulB : KD := fun x y Q => match x, y with
  | .tup a, .int k => a ≠ [] ∧ 0 ≤ k ∧ k ≤ 1000 ∧ a.length ≤ 1000 ∧ Q (.tup (List.replicate k.toNat a).flatten)
  | x, y => kMul x y Q
theorem opd_mulB : OpD X (binaryOp .Mult) kMulB := (((opd_mulT.or opd_mulT1).or opd_mulT0).or opd_mul).imp fun x y Q h => by
  cases x <;> cases y <;> first | exact .inr h | skip
  rename_i a k
  obtain ⟨h1, h2, h3, h4, h5⟩ := h
  by_cases k0 : k = 0
  · subst k0; exact .inl (.inr ⟨h1, h5⟩)
  · by_cases k1 : k = 1
    · subst k1
      have e : (List.replicate (1 : Int).toNat a).flatten = a := by
        show (List.replicate 1 a).flatten = a
        rw [List.replicate_one, List.flatten_cons, List.flatten_nil, List.append_nil]
      rw [e] at h5
      exact .inl (.inl (.inr h5))
    · exact .inl (.inl (.inl ⟨h1, by omega, h3, h4, h5⟩))
/-! ### lists of unlike lengths -/
theorem op_eqLen (hu : X.A.units + 64 < cLine) : OpR X (compareOp .Eq) (fun x y H Q => ∃ a b xs ys, x = .ref a ∧ y = .ref b ∧ SqL X.K H a xs ∧ SqL X.K H b ys ∧ xs.length ≠ ys.length ∧ Q (.bl false) H) := by
  intro pins s σ H x y v u Q I rx ry h
  obtain ⟨a, b, xs, ys, rfl, rfl, h1, h2, hne, q⟩ := h
  cases rx
  cases ry
  obtain ⟨its, r, pl, -⟩ := I.list h1
  obtain ⟨its2, r2, pl2, -⟩ := I.list h2
  refine SeqAt.eq_list_lengthsAt pl.isList pl2.isList ?_ (by omega) ⟨.bl false, H, I, rfl, q⟩
  rw [List.size_toArray, List.size_toArray, ← r.length, ← r2.length]
  exact bne_iff_ne.mpr hne
/-- a list == [], whatever is in it -/
def kEqZ : KD := fun x y Q => match x, y with
  | .lst (_ :: _), .lst [] => Q (.bl false)
  | x, y => kEq x y Q
theorem opd_eqZ (hu : X.A.units + 64 < cLine) : OpD X (compareOp .Eq) kEqZ := by
  have base : OpD X (compareOp .Eq) (fun x y Q => match x, y with | .lst (_ :: _), .lst [] => Q (.bl false) | _, _ => False) := by
    refine ⟨_, op_eqLen hu, fun x y vx vy F H Qd Q e px py kk q => ?_⟩
    dsimp only at q
    split at q
    · obtain ⟨p, vs, rfl, h1, l1, r1⟩ := px.lst e
      obtain ⟨p', vs', rfl, h1', l1', r1'⟩ := py.lst e
      refine ⟨p, p', vs, vs', rfl, rfl, SqL.of h1, SqL.of h1', ?_, kk _ _ F H (.refl e) (.bl _) q⟩
      rw [r1.length, r1'.length]
      exact fun z => nomatch z
    · exact q.elim
  refine (base.or (opd_eq hu)).imp fun x y Q h => ?_
  unfold kEqZ at h
  split at h
  · exact .inl h
  · exact .inr h
end
end Dl

/-! The D-layer, part 35: things, read once. -/
namespace Dl
open PySem PySem.Spec
open PyProof.Rows L2
local macro_rules | `(tactic| walk_at "rd") => `(tactic| ((conv => whnf); (try dsimp only [startD, wipeD, q_map_cons, q_map_nil, q_app_cons, q_app_nil, q_len_cons, q_len_nil, q_rep_0, q_rep_s, q_get_0, q_get_s, q_set_0, q_set_s, ifP_t, ifP_f, Nat.reduceAdd, Nat.reduceSub, Int.reduceToNat, Int.reducePow, Int.reduceAdd, Int.reduceMul])))
local macro_rules | `(tactic| walk_at "bx") => `(tactic| first | with_reducible assumption | (apply bnd_mul <;> walk_at "bx") | (apply bnd_addM <;> walk_at "bx") | (apply bnd_subM <;> walk_at "bx") | (apply bnd_negM <;> walk_at "bx") | exact bnd_lit (k := 8) (by decide) | exact bnd_lit (k := 64) (by decide) | (with_reducible (apply_assumption)))
local macro_rules | `(tactic| walk_at "bd") => `(tactic| first | with_reducible assumption | (apply bnd_mono; (walk_at "bx"); first | omega | decide))
local macro_rules | `(tactic| walk_at "sd") => `(tactic| first | with_reducible assumption | omega | with_reducible rfl | exact (rfl : (_ : Bool) = true) | decide | exact few_of (by decide) | exact divOk_small (by decide) (by decide +kernel) | exact mulOk_r (by omega) (by omega) | exact mulOk_l (by omega) (by omega) | ((with_reducible apply mul_of); (walk_at "bx"); (walk_at "bx"); first | omega | decide) | exact few_of (by simp only [List.length_append, List.length_map, List.length_cons, List.length_nil, tab_len, List.length_replicate]; omega))
local macro_rules | `(tactic| walk_at "go") => `(tactic| ((try walk_at "rd"); (repeat (refine And.intro (by walk_at "sd") ?_; try walk_at "rd"))))
structure ThK (K : PySem.W.Frag) (C_Mode C_Thing : Addr) : Prop where
  f_Mode_rows : FldOk K C_Mode "rows"
  f_Mode_nexts : FldOk K C_Mode "nexts"
  f_Mode_steer : FldOk K C_Mode "steer"
  f_Mode_push : FldOk K C_Mode "push"
  f_Mode_add : FldOk K C_Mode "add"
  f_Mode_divisor : FldOk K C_Mode "divisor"
  f_Thing_many : FldOk K C_Thing "many"
  f_Thing_bounds : FldOk K C_Thing "bounds"
  f_Thing_ways : FldOk K C_Thing "ways"
  i_Mode : InsTy K C_Mode
  i_Thing : InsTy K C_Thing
  k_Mode_Mode : PySem.W.kitOne K (.ref C_Mode) (.ref C_Mode) = some true
  n_int_Mode : PySem.W.kitOne K (.type "int") (.ref C_Mode) = some false
  n_bool_Mode : PySem.W.kitOne K (.type "bool") (.ref C_Mode) = some false
  n_NoneType_Mode : PySem.W.kitOne K (.type "NoneType") (.ref C_Mode) = some false
  n_str_Mode : PySem.W.kitOne K (.type "str") (.ref C_Mode) = some false
  n_tuple_Mode : PySem.W.kitOne K (.type "tuple") (.ref C_Mode) = some false
  n_list_Mode : PySem.W.kitOne K (.type "list") (.ref C_Mode) = some false
  n_dict_Mode : PySem.W.kitOne K (.type "dict") (.ref C_Mode) = some false
/-! ### kinds -/
def isLstB : D → Bool
  | .lst _ => true
  | .frl _ => true
  | _ => false
def isTupB : D → Bool
  | .tup _ => true
  | _ => false
theorem isB_list {d : D} (h : tyN d ≠ none) : isB d "list" = some (isLstB d) := by
  cases d <;> first
    | exact absurd rfl h
    | exact isB_nl | exact isB_bl _ | exact isB_il _ | exact isB_sl _ | exact isB_tl _ | exact isB_ll _ | exact isB_dl _ | (show kitB "list" "list" = some true; decide +kernel)
theorem isB_tuple {d : D} (h : tyN d ≠ none) : isB d "tuple" = some (isTupB d) := by
  cases d <;> first
    | exact absurd rfl h
    | exact isB_nt | exact isB_bt _ | exact isB_it _ | exact isB_st _ | exact isB_tt _ | exact isB_lt _ | exact isB_dt _ | (show kitB "list" "tuple" = some false; decide +kernel)
def isWhB (d : D) : Bool := match d with
  | .int _ => true
  | _ => false
theorem isWh_some {d : D} (h : isWh d ≠ none) : isWh d = some (isWhB d) := by
  cases d <;> first
    | rfl
    | exact absurd rfl h
/-- known things: no raw ones, no list that is only lent -/
def knD (d : D) : Prop := tyN d ≠ none ∧ ∀ xs, d ≠ .frl xs
def kw (d : D) : Prop := knD d ∧ ∀ xs, (d = .lst xs ∨ d = .tup xs) → ∀ x ∈ xs, isWh x ≠ none
def awB (d : D) (k : Int) : Bool := match d with
  | .lst xs => decide ((xs.length : Int) = k) && xs.all isWhB
  | _ => false
def rwB (d : D) (k : Int) : Bool := match d with
  | .tup xs => decide ((xs.length : Int) = k + 1) && xs.all isWhB
  | _ => false
def rmB (d : D) (k : Int) : Bool := match d with
  | .lst xs => xs.all fun r => rwB r k
  | _ => false
def tbB (d : D) (k w : Int) : Bool := match d with
  | .lst xs => decide ((xs.length : Int) = k) && xs.all fun r => awB r w
  | _ => false
def kws (d : D) : Prop := knD d ∧ ∀ xs, d = .lst xs → ∀ x ∈ xs, kw x
theorem all_map_bl {α : Type} (f : α → Bool) (xs : List α) : blsOf (xs.map fun x => D.bl (f x)) = some (xs.map f) := by
  rw [show xs.map (fun x => D.bl (f x)) = (xs.map f).map D.bl by rw [List.map_map]; rfl, blsOf_map]
theorem all_map_id {α : Type} (f : α → Bool) (xs : List α) : (xs.map f).all id = xs.all f := by rw [List.all_map]; rfl
abbrev g_own_list : DF := fun ds Q _ => ∃ d, ds = [d] ∧ knD d ∧ Q d
abbrev N_own_list : List Str := ["thing"]
def tb_own_list (K : PySem.W.Frag) : DS :=
  (dSq (dIf (dTest (dCB (kIsi K) (dCons (dVarP 0) (dCons (dC (.ty "list")) dNil)))) (dRet (dCB kList (dCons (dVarP 0) dNil))) dNext) (dRet (dVar 0)))
theorem rd_own_list {K : PySem.W.Frag} (ds : List D) (Q E : EQ) (_ : ds.length = 1) (h : g_own_list ds Q E) : tb_own_list K (dE Q E) (startD N_own_list ds) := by
  obtain ⟨d, rfl, hd, q⟩ := h
  unfold tb_own_list dE
  cases d <;> first
    | exact absurd rfl hd.1
    | exact absurd rfl (hd.2 _)
    | (walk_at "go"; exact q)
/-- what own copies -/
def ko (d : D) : Prop := knD d ∧ ∀ xs, d = .lst xs → ∀ x ∈ xs, knD x
abbrev g_own : DF := fun ds Q _ => ∃ d, ds = [d] ∧ ko d ∧ Q d
abbrev N_own : List Str := ["thing", "one"]
def tb_own (K : PySem.W.Frag) : DS :=
  (dSq (dIf (dNot (dTest (dCB (kIsi K) (dCons (dVarP 0) (dCons (dC (.ty "list")) dNil))))) (dRet (dVar 0)) dNext) (dRet (dFz (dLcN (dSeq (dVar 0)) (gNm 1) dYes (dCall 1 [] g_own_list (dCons (dVar 1) dNil)) [1]))))
theorem rd_own {K : PySem.W.Frag} (ds : List D) (Q E : EQ) (_ : ds.length = 1) (h : g_own ds Q E) : tb_own K (dE Q E) (startD N_own ds) := by
  obtain ⟨d, rfl, hd, q⟩ := h
  unfold tb_own dE
  cases d with
  | lst xs =>
    walk_at "go"
    refine compL_map id _ _ (fun e he K1 K0 hK => ?_) (by rw [List.map_id, List.nil_append]; exact q)
    walk_at "go"
    exact ⟨e, rfl, hd.2 xs rfl e he, hK⟩
  | _ => first
    | exact absurd rfl hd.1.1
    | exact absurd rfl (hd.1.2 _)
    | (walk_at "go"; exact q)
abbrev g_are_wholes : DF := fun ds Q _ => ∃ (d : D) (k : Int), ds = [d, .int k] ∧ kw d ∧ Q (.bl (awB d k))
abbrev N_are_wholes : List Str := ["thing", "many", "one"]
def tb_are_wholes (K : PySem.W.Frag) : DS :=
  (dRet (dAndV (dCB (kIsi K) (dCons (dVarP 0) (dCons (dC (.ty "list")) dNil))) (dAndV (dOp kEq (dCB kLen (dCons (dVarP 0) dNil)) (dVarP 1)) (dCB kAll (dCons (dFz (dLcN (dSeq (dVar 0)) (gNm 2) dYes (dCall 1 [] g_is_whole (dCons (dVar 2) dNil)) [2])) dNil)))))
theorem rd_are_wholes {K : PySem.W.Frag} (ds : List D) (Q E : EQ) (_ : ds.length = 2) (h : g_are_wholes ds Q E) : tb_are_wholes K (dE Q E) (startD N_are_wholes ds) := by
  obtain ⟨d, k, rfl, hd, q⟩ := h
  unfold tb_are_wholes dE
  cases d with
  | lst xs =>
    have q : Q (.bl (decide ((xs.length : Int) = k) && xs.all isWhB)) := q
    walk_at "go"
    by_cases h0 : (xs.length : Int) = k
    · rw [decide_eq_true h0] at q ⊢
      walk_at "go"
      refine compL_map (fun d => .bl (isWhB d)) _ _ (fun e he K1 K0 hK => ?_) ?_
      · walk_at "go"
        exact ⟨e, _, rfl, isWh_some (hd.2 xs (.inl rfl) e he), hK⟩
      · rw [List.nil_append]
        walk_at "rd"
        rw [all_map_bl]
        walk_at "rd"
        rw [all_map_id]
        exact q
    · rw [decide_eq_false h0] at q ⊢
      walk_at "go"
      exact q
  | _ => first
    | exact absurd rfl hd.1.1
    | exact absurd rfl (hd.1.2 _)
    | (walk_at "go"; exact q)
abbrev g_is_row : DF := fun ds Q _ => ∃ (d : D) (k : Int), ds = [d, .int k] ∧ kw d ∧ Q (.bl (rwB d k))
abbrev N_is_row : List Str := ["thing", "many", "one"]
def tb_is_row (K : PySem.W.Frag) : DS :=
  (dRet (dAndV (dCB (kIsi K) (dCons (dVarP 0) (dCons (dC (.ty "tuple")) dNil))) (dAndV (dOp kEq (dCB kLen (dCons (dVarP 0) dNil)) (dOp kAdd (dVarP 1) (dC (.int 1)))) (dCB kAll (dCons (dFz (dLcN (dSeq (dVar 0)) (gNm 2) dYes (dCall 1 [] g_is_whole (dCons (dVar 2) dNil)) [2])) dNil)))))
theorem rd_is_row {K : PySem.W.Frag} (ds : List D) (Q E : EQ) (_ : ds.length = 2) (h : g_is_row ds Q E) : tb_is_row K (dE Q E) (startD N_is_row ds) := by
  obtain ⟨d, k, rfl, hd, q⟩ := h
  unfold tb_is_row dE
  cases d with
  | tup xs =>
    have q : Q (.bl (decide ((xs.length : Int) = k + 1) && xs.all isWhB)) := q
    walk_at "go"
    by_cases h0 : (xs.length : Int) = k + 1
    · rw [decide_eq_true h0] at q ⊢
      walk_at "go"
      refine compL_map (fun d => .bl (isWhB d)) _ _ (fun e he K1 K0 hK => ?_) ?_
      · walk_at "go"
        exact ⟨e, _, rfl, isWh_some (hd.2 xs (.inr rfl) e he), hK⟩
      · rw [List.nil_append]
        walk_at "rd"
        rw [all_map_bl]
        walk_at "rd"
        rw [all_map_id]
        exact q
    · rw [decide_eq_false h0] at q ⊢
      walk_at "go"
      exact q
  | _ => first
    | exact absurd rfl hd.1.1
    | exact absurd rfl (hd.1.2 _)
    | (walk_at "go"; exact q)
abbrev g_is_room : DF := fun ds Q _ => ∃ (d : D) (k : Int), ds = [d, .int k] ∧ kws d ∧ Q (.bl (rmB d k))
abbrev N_is_room : List Str := ["thing", "many", "row"]
def tb_is_room (K : PySem.W.Frag) : DS :=
  (dRet (dAndV (dCB (kIsi K) (dCons (dVarP 0) (dCons (dC (.ty "list")) dNil))) (dCB kAll (dCons (dFz (dLcN (dSeq (dVar 0)) (gNm 2) dYes (dCall 2 [] g_is_row (dCons (dVar 2) (dCons (dVar 1) dNil))) [2])) dNil))))
theorem rd_is_room {K : PySem.W.Frag} (ds : List D) (Q E : EQ) (_ : ds.length = 2) (h : g_is_room ds Q E) : tb_is_room K (dE Q E) (startD N_is_room ds) := by
  obtain ⟨d, k, rfl, hd, q⟩ := h
  unfold tb_is_room dE
  cases d with
  | lst xs =>
    have q : Q (.bl (xs.all fun r => rwB r k)) := q
    walk_at "go"
    refine compL_map (fun d => .bl (rwB d k)) _ _ (fun e he K1 K0 hK => ?_) ?_
    · walk_at "go"
      exact ⟨e, k, rfl, hd.2 xs rfl e he, hK⟩
    · rw [List.nil_append]
      walk_at "rd"
      rw [all_map_bl (fun d => rwB d k)]
      walk_at "rd"
      rw [all_map_id]
      exact q
  | _ => first
    | exact absurd rfl hd.1.1
    | exact absurd rfl (hd.1.2 _)
    | (walk_at "go"; exact q)
abbrev g_is_table : DF := fun ds Q _ => ∃ (d : D) (k w : Int), ds = [d, .int k, .int w] ∧ kws d ∧ Q (.bl (tbB d k w))
abbrev N_is_table : List Str := ["thing", "many", "wide", "one"]
def tb_is_table (K : PySem.W.Frag) : DS :=
  (dRet (dAndV (dCB (kIsi K) (dCons (dVarP 0) (dCons (dC (.ty "list")) dNil))) (dAndV (dOp kEq (dCB kLen (dCons (dVarP 0) dNil)) (dVarP 1)) (dCB kAll (dCons (dFz (dLcN (dSeq (dVar 0)) (gNm 3) dYes (dCall 2 [] g_are_wholes (dCons (dVar 3) (dCons (dVar 2) dNil))) [3])) dNil)))))
theorem rd_is_table {K : PySem.W.Frag} (ds : List D) (Q E : EQ) (_ : ds.length = 3) (h : g_is_table ds Q E) : tb_is_table K (dE Q E) (startD N_is_table ds) := by
  obtain ⟨d, k, w, rfl, hd, q⟩ := h
  unfold tb_is_table dE
  cases d with
  | lst xs =>
    have q : Q (.bl (decide ((xs.length : Int) = k) && xs.all fun r => awB r w)) := q
    walk_at "go"
    by_cases h0 : (xs.length : Int) = k
    · rw [decide_eq_true h0] at q ⊢
      walk_at "go"
      refine compL_map (fun d => .bl (awB d w)) _ _ (fun e he K1 K0 hK => ?_) ?_
      · walk_at "go"
        exact ⟨e, w, rfl, hd.2 xs rfl e he, hK⟩
      · rw [List.nil_append]
        walk_at "rd"
        rw [all_map_bl (fun d => awB d w)]
        walk_at "rd"
        rw [all_map_id]
        exact q
    · rw [decide_eq_false h0] at q ⊢
      walk_at "go"
      exact q
  | _ => first
    | exact absurd rfl hd.1.1
    | exact absurd rfl (hd.1.2 _)
    | (walk_at "go"; exact q)
/-! ### modes -/
def mdF (a b c d e f : D) : List (Str × D) := [("rows", a), ("nexts", b), ("steer", c), ("push", d), ("add", e), ("divisor", f)]
abbrev g_Mode_init : DI := fun ds Q _ => ∃ a b c d e f, ds = [a, b, c, d, e, f] ∧ ko a ∧ ko b ∧ ko c ∧ ko d ∧ ko e ∧ Q (mdF a b c d e f)
abbrev N_Mode_init : List Str := ["self", "rows", "nexts", "steer", "push", "add", "divisor"]
def tb_Mode_init (K : PySem.W.Frag) : DS :=
  (dSq (dPutF K 0 "rows" (dCall 1 [] g_own (dCons (dVar 1) dNil))) (dSq (dPutF K 0 "nexts" (dCall 1 [] g_own (dCons (dVar 2) dNil))) (dSq (dPutF K 0 "steer" (dCall 1 [] g_own (dCons (dVar 3) dNil))) (dSq (dPutF K 0 "push" (dCall 1 [] g_own (dCons (dVar 4) dNil))) (dSq (dPutF K 0 "add" (dCall 1 [] g_own (dCons (dVar 5) dNil))) (dPutF K 0 "divisor" (dVar 6)))))))
theorem rd_Mode_init {K : PySem.W.Frag} {CM CT : Addr} (hK : ThK K CM CT) (x : Addr) (ds : List D) (Q : List (Str × D) → Prop) (E : EQ) (_ : ds.length + 1 = 7) (h : g_Mode_init ds Q E) : tb_Mode_init K (dEI (CM, x) Q E) (startI (CM, x) N_Mode_init ds) := by
  obtain ⟨a, b, c, d, e, f, rfl, ha, hb, hc, hd, he, q⟩ := h
  have k1 := hK.f_Mode_rows
  have k2 := hK.f_Mode_nexts
  have k3 := hK.f_Mode_steer
  have k4 := hK.f_Mode_push
  have k5 := hK.f_Mode_add
  have k6 := hK.f_Mode_divisor
  unfold tb_Mode_init dEI startI
  walk_at "go"
  refine ⟨a, rfl, ha, ?_⟩
  walk_at "go"
  refine ⟨b, rfl, hb, ?_⟩
  walk_at "go"
  refine ⟨Nat.le_of_ble_eq_true rfl, ?_⟩
  walk_at "go"
  refine ⟨c, rfl, hc, ?_⟩
  walk_at "go"
  refine ⟨Nat.le_of_ble_eq_true rfl, ?_⟩
  walk_at "go"
  refine ⟨d, rfl, hd, ?_⟩
  walk_at "go"
  refine ⟨Nat.le_of_ble_eq_true rfl, ?_⟩
  walk_at "go"
  refine ⟨e, rfl, he, ?_⟩
  walk_at "go"
  refine ⟨Nat.le_of_ble_eq_true rfl, ?_⟩
  walk_at "go"
  refine ⟨Nat.le_of_ble_eq_true rfl, ?_⟩
  walk_at "go"
  exact q
def dvB (d : D) : Bool := match d with
  | .int z => decide (1 ≤ z)
  | _ => false
def mdB (C : Addr) (d : D) (n p : Int) : Bool := match d with
  | .ins C' [(_, a), (_, b), (_, c), (_, d), (_, e), (_, f)] => decide (C' = C) && (rmB a n && tbB b n n && awB c n && tbB d n p && awB e n && dvB f)
  | _ => false
/-- a mode, or something known that is none -/
def kM (C : Addr) (d : D) : Prop := (∃ a b c e f g, d = .ins C (mdF a b c e f g) ∧ kws a ∧ kws b ∧ kw c ∧ kws e ∧ kw f ∧ isWh g ≠ none) ∨ tyN d ≠ none
abbrev g_is_mode (C : Addr) : DF := fun ds Q _ => ∃ (d : D) (n p : Int), ds = [d, .int n, .int p] ∧ kM C d ∧ Q (.bl (mdB C d n p))
abbrev N_is_mode : List Str := ["thing", "many", "wide"]
def tb_is_mode (K : PySem.W.Frag) (C_Mode : Addr) : DS :=
  (dSq (dIf (dOr (dNot (dTest (dCB (kIsi K) (dCons (dVarP 0) (dCons (dC (.cls C_Mode)) dNil))))) (dOr (dNot (dTest (dCall 2 [] g_is_room (dCons (dFld K "rows" (dVar 0)) (dCons (dVar 1) dNil))))) (dNot (dTest (dCall 3 [] g_is_table (dCons (dFld K "nexts" (dVar 0)) (dCons (dVar 1) (dCons (dVar 1) dNil)))))))) (dRet (dC (.bl false))) dNext) (dSq (dIf (dOr (dNot (dTest (dCall 2 [] g_are_wholes (dCons (dFld K "steer" (dVar 0)) (dCons (dVar 1) dNil))))) (dOr (dNot (dTest (dCall 3 [] g_is_table (dCons (dFld K "push" (dVar 0)) (dCons (dVar 1) (dCons (dVar 2) dNil)))))) (dNot (dTest (dCall 2 [] g_are_wholes (dCons (dFld K "add" (dVar 0)) (dCons (dVar 1) dNil))))))) (dRet (dC (.bl false))) dNext) (dRet (dAndV (dCall 1 [] g_is_whole (dCons (dFld K "divisor" (dVar 0)) dNil)) (dOp kGe (dFld K "divisor" (dVar 0)) (dC (.int 1)))))))
theorem rd_is_mode {K : PySem.W.Frag} {CM CT : Addr} (hK : ThK K CM CT) (ds : List D) (Q E : EQ) (_ : ds.length = 3) (h : g_is_mode CM ds Q E) : tb_is_mode K CM (dE Q E) (startD N_is_mode ds) := by
  obtain ⟨d, n, p, rfl, hd, q⟩ := h
  have k1 := hK.f_Mode_rows
  have k2 := hK.f_Mode_nexts
  have k3 := hK.f_Mode_steer
  have k4 := hK.f_Mode_push
  have k5 := hK.f_Mode_add
  have k6 := hK.f_Mode_divisor
  have ki := hK.i_Mode
  unfold tb_is_mode dE
  rcases hd with ⟨a, b, c, e, f, g, rfl, ha, hb, hc, he, hf, hg⟩ | hd
  · have q : Q (.bl (decide (CM = CM) && (rmB a n && tbB b n n && awB c n && tbB e n p && awB f n && dvB g))) := q
    rw [decide_eq_true rfl, Bool.true_and] at q
    unfold mdF
    walk_at "go"
    rw [hK.k_Mode_Mode]
    walk_at "go"
    refine ⟨a, n, rfl, ha, ?_⟩
    cases h1 : rmB a n
    · rw [h1] at q; walk_at "go"; exact q
    rw [h1] at q
    walk_at "go"
    refine ⟨b, n, n, rfl, hb, ?_⟩
    cases h2 : tbB b n n
    · rw [h2] at q; walk_at "go"; exact q
    rw [h2] at q
    walk_at "go"
    refine ⟨c, n, rfl, hc, ?_⟩
    cases h3 : awB c n
    · rw [h3] at q; walk_at "go"; exact q
    rw [h3] at q
    walk_at "go"
    refine ⟨e, n, p, rfl, he, ?_⟩
    cases h4 : tbB e n p
    · rw [h4] at q; walk_at "go"; exact q
    rw [h4] at q
    walk_at "go"
    refine ⟨f, n, rfl, hf, ?_⟩
    cases h5 : awB f n
    · rw [h5] at q; walk_at "go"; exact q
    rw [h5] at q
    walk_at "go"
    refine ⟨g, _, rfl, isWh_some hg, ?_⟩
    cases g <;> first
      | (walk_at "go"; exact q)
      | exact absurd rfl hg
  · have ks : PySem.W.kitOne K (.type "int") (.ref CM) = some false ∧ PySem.W.kitOne K (.type "bool") (.ref CM) = some false ∧ PySem.W.kitOne K (.type "NoneType") (.ref CM) = some false ∧ PySem.W.kitOne K (.type "str") (.ref CM) = some false ∧ PySem.W.kitOne K (.type "tuple") (.ref CM) = some false ∧ PySem.W.kitOne K (.type "list") (.ref CM) = some false ∧ PySem.W.kitOne K (.type "dict") (.ref CM) = some false :=
      ⟨hK.n_int_Mode, hK.n_bool_Mode, hK.n_NoneType_Mode, hK.n_str_Mode, hK.n_tuple_Mode, hK.n_list_Mode, hK.n_dict_Mode⟩
    obtain ⟨z1, z2, z3, z4, z5, z6, z7⟩ := ks
    cases d <;> first
      | exact absurd rfl hd
      | (walk_at "go"; first | rw [z1] | rw [z2] | rw [z3] | rw [z4] | rw [z5] | rw [z6] | rw [z7]
         walk_at "go"; exact q)
end Dl

/-! The D-layer, part 36: things made, told. -/
namespace Dl
open PySem PySem.Spec
open PyProof.Rows L2
local macro_rules | `(tactic| walk_at "rd") => `(tactic| ((conv => whnf); (try dsimp only [startD, wipeD, q_map_cons, q_map_nil, q_app_cons, q_app_nil, q_len_cons, q_len_nil, q_rep_0, q_rep_s, q_get_0, q_get_s, q_set_0, q_set_s, ifP_t, ifP_f, Nat.reduceAdd, Nat.reduceSub, Int.reduceToNat, Int.reducePow, Int.reduceAdd, Int.reduceMul])))
local macro_rules | `(tactic| walk_at "bx") => `(tactic| first | with_reducible assumption | (apply bnd_mul <;> walk_at "bx") | (apply bnd_addM <;> walk_at "bx") | (apply bnd_subM <;> walk_at "bx") | (apply bnd_negM <;> walk_at "bx") | exact bnd_lit (k := 8) (by decide) | exact bnd_lit (k := 64) (by decide) | (with_reducible (apply_assumption)))
local macro_rules | `(tactic| walk_at "bd") => `(tactic| first | with_reducible assumption | (apply bnd_mono; (walk_at "bx"); first | omega | decide))
local macro_rules | `(tactic| walk_at "sd") => `(tactic| first | with_reducible assumption | omega | with_reducible rfl | exact (rfl : (_ : Bool) = true) | decide | exact few_of (by decide) | exact divOk_small (by decide) (by decide +kernel) | exact mulOk_r (by omega) (by omega) | exact mulOk_l (by omega) (by omega) | ((with_reducible apply mul_of); (walk_at "bx"); (walk_at "bx"); first | omega | decide) | exact few_of (by simp only [List.length_append, List.length_map, List.length_cons, List.length_nil, tab_len, List.length_replicate]; omega))
local macro_rules | `(tactic| walk_at "go") => `(tactic| ((try walk_at "rd"); (repeat (refine And.intro (by walk_at "sd") ?_; try walk_at "rd"))))
def psTwo : D → D → Bool
  | .int a, .int b => decide (a ≤ b)
  | _, _ => false
def psB (d : D) : Bool := match d with
  | .tup l => (match l with
    | [x, y] => psTwo x y
    | _ => false)
  | _ => false
def kP (d : D) : Prop := knD d ∧ ∀ x y, d = .tup [x, y] → isWh x ≠ none ∧ isWh y ≠ none
abbrev g_is_push : DF := fun ds Q _ => ∃ d, ds = [d] ∧ kP d ∧ Q (.bl (psB d))
abbrev N_is_push : List Str := ["thing"]
def tb_is_push (K : PySem.W.Frag) : DS :=
  (dSq (dIf (dOr (dNot (dTest (dCB (kIsi K) (dCons (dVarP 0) (dCons (dC (.ty "tuple")) dNil))))) (dOr (dTest (dOp kNe (dCB kLen (dCons (dVarP 0) dNil)) (dC (.int 2)))) (dOr (dNot (dTest (dCall 1 [] g_is_whole (dCons (dOp kIx (dVarP 0) (dC (.int 0))) dNil)))) (dNot (dTest (dCall 1 [] g_is_whole (dCons (dOp kIx (dVarP 0) (dC (.int 1))) dNil))))))) (dRet (dC (.bl false))) dNext) (dRet (dOp kLe (dOp kIx (dVarP 0) (dC (.int 0))) (dOp kIx (dVarP 0) (dC (.int 1))))))
theorem rd_is_push {K : PySem.W.Frag} (ds : List D) (Q E : EQ) (_ : ds.length = 1) (h : g_is_push ds Q E) : tb_is_push K (dE Q E) (startD N_is_push ds) := by
  obtain ⟨d, rfl, hd, q⟩ := h
  unfold tb_is_push dE
  cases d with
  | tup l =>
    match l, hd, q with
    | [], hd, q => walk_at "go"; exact q
    | [x], hd, q => walk_at "go"; exact q
    | [x, y], hd, q =>
      obtain ⟨hx, hy⟩ := hd.2 x y rfl
      walk_at "go"
      refine ⟨x, _, rfl, isWh_some hx, ?_⟩
      cases x <;> first
        | exact absurd rfl hx
        | (walk_at "go"; exact q)
        | skip
      walk_at "go"
      refine ⟨y, _, rfl, isWh_some hy, ?_⟩
      cases y <;> first
        | exact absurd rfl hy
        | (walk_at "go"; exact q)
    | x :: y :: z :: l, hd, q =>
      walk_at "go"
      exact q
  | _ => first
    | exact absurd rfl hd.1.1
    | exact absurd rfl (hd.1.2 _)
    | (walk_at "go"; exact q)
/-! ### things -/
def thF (m b w : D) : List (Str × D) := [("many", m), ("bounds", b), ("ways", w)]
def manyB (d : D) : Bool := match d with
  | .int n => decide (1 ≤ n) && decide (n ≤ 3)
  | _ => false
def psB' (d : D) : Bool := match d with
  | .lst xs => xs.all psB
  | _ => false
def msB (C : Addr) (n : Int) (d : D) (p : Int) : Bool := match d with
  | .lst (x :: xs) => (x :: xs).all fun m => mdB C m n p
  | _ => false
def lenD (d : D) : Nat := match d with
  | .lst xs => xs.length
  | _ => 0
def numD (d : D) : Int := match d with
  | .int n => n
  | _ => 0
def thB (C : Addr) (m b w : D) : Bool := manyB m && (psB' b && msB C (numD m) w (lenD b))
def kPs (d : D) : Prop := knD d ∧ ∀ xs, d = .lst xs → ∀ x ∈ xs, kP x
def kMs (C : Addr) (d : D) : Prop := knD d ∧ ∀ xs, d = .lst xs → ∀ x ∈ xs, kM C x
/-- what Thing(many, pushes, modes) does: CM, CB, CO the classes Mode, BadThing, TooMany -/
abbrev g_Thing_init (CM CB CO : Addr) : DI := fun ds Q E => ∃ m b w, ds = [m, b, w] ∧ isWh m ≠ none ∧ kPs b ∧ kMs CM w ∧
  if thB CM m b w = true then (if 6 < lenD b ∨ 40 < lenD w then E (.ins CO []) else Q (thF m b w)) else E (.ins CB [])
abbrev N_Thing_init : List Str := ["self", "many", "pushes", "modes", "push", "mode"]
def tb_Thing_init (K : PySem.W.Frag) (C_BadThing C_Mode C_TooMany : Addr) : DS :=
  (dSq (dIf (dOr (dNot (dTest (dCall 1 [] g_is_whole (dCons (dVar 1) dNil)))) (dNot (dTest (dChain kLe kLe (dC (.int 1)) (dVarP 1) (dC (.int 3)))))) (dRaise C_BadThing) dNext) (dSq (dIf (dOr (dNot (dTest (dCB (kIsi K) (dCons (dVarP 2) (dCons (dC (.ty "list")) dNil))))) (dNot (dTest (dCB kAll (dCons (dFz (dLcN (dSeq (dVar 2)) (gNm 4) dYes (dCall 1 [] g_is_push (dCons (dVar 4) dNil)) [4])) dNil))))) (dRaise C_BadThing) dNext) (dSq (dIf (dOr (dNot (dTest (dCB (kIsi K) (dCons (dVarP 3) (dCons (dC (.ty "list")) dNil))))) (dTest (dOp kEqZ (dVarP 3) (dLst dNil)))) (dRaise C_BadThing) dNext) (dSq (dIf (dNot (dTest (dCB kAll (dCons (dFz (dLcN (dSeq (dVar 3)) (gNm 5) dYes (dCall 3 [] (g_is_mode C_Mode) (dCons (dVar 5) (dCons (dVar 1) (dCons (dCB kLen (dCons (dVarP 2) dNil)) dNil)))) [5])) dNil)))) (dRaise C_BadThing) dNext) (dSq (dIf (dOr (dTest (dOp kGt (dCB kLen (dCons (dVarP 2) dNil)) (dC (.int 6)))) (dTest (dOp kGt (dCB kLen (dCons (dVarP 3) dNil)) (dC (.int 40))))) (dRaise C_TooMany) dNext) (dSq (dPutF K 0 "many" (dVar 1)) (dSq (dPutF K 0 "bounds" (dCB kList (dCons (dVarP 2) dNil))) (dPutF K 0 "ways" (dCB kList (dCons (dVarP 3) dNil))))))))))
theorem rd_Thing_init {K : PySem.W.Frag} {CM CT CB CO : Addr} (hK : ThK K CM CT) (x : Addr) (ds : List D) (Q : List (Str × D) → Prop) (E : EQ) (_ : ds.length + 1 = 4) (h : g_Thing_init CM CB CO ds Q E) : tb_Thing_init K CB CM CO (dEI (CT, x) Q E) (startI (CT, x) N_Thing_init ds) := by
  obtain ⟨m, b, w, rfl, hm, hb, hw, q⟩ := h
  have k1 := hK.f_Thing_many
  have k2 := hK.f_Thing_bounds
  have k3 := hK.f_Thing_ways
  unfold tb_Thing_init dEI startI
  walk_at "go"
  refine ⟨m, _, rfl, isWh_some hm, ?_⟩
  -- the number
  have bad : ∀ (c : Bool), manyB m = false → E (.ins CB []) := fun _ h => by
    unfold thB at q
    rw [h] at q
    exact q
  cases m with
  | int n =>
    walk_at "go"
    by_cases h1 : 1 ≤ n
    case neg =>
      rw [decide_eq_false h1]
      walk_at "go"
      exact bad true (by unfold manyB; dsimp only; rw [decide_eq_false h1]; rfl)
    rw [decide_eq_true h1]
    walk_at "go"
    by_cases h3 : n ≤ 3
    case neg =>
      rw [decide_eq_false h3]
      walk_at "go"
      exact bad true (by unfold manyB; dsimp only; rw [decide_eq_false h3, Bool.and_false])
    rw [decide_eq_true h3]
    have hmb : manyB (.int n) = true := by unfold manyB; dsimp only; rw [decide_eq_true h1, decide_eq_true h3]; rfl
    unfold thB at q
    rw [hmb, Bool.true_and] at q
    walk_at "go"
    -- the pushes
    cases b with
    | lst ps =>
      walk_at "go"
      refine compL_map (fun d => .bl (psB d)) _ _ (fun e he K1 K0 hK => ?_) ?_
      · walk_at "go"
        exact ⟨e, rfl, hb.2 ps rfl e he, hK⟩
      rw [List.nil_append]
      walk_at "rd"
      rw [all_map_bl]
      walk_at "rd"
      rw [all_map_id]
      have e1 : psB' (.lst ps) = ps.all psB := rfl
      rw [e1] at q
      cases hp : ps.all psB
      · rw [hp] at q
        walk_at "go"
        exact q
      rw [hp, Bool.true_and] at q
      walk_at "go"
      -- the modes
      cases w with
      | lst ms =>
        cases ms with
        | nil =>
          walk_at "go"
          refine ⟨plain_of rfl, plain_of rfl, ?_⟩
          walk_at "go"
          exact q
        | cons x xs =>
          walk_at "go"
          refine compL_map (fun d => .bl (mdB CM d n ps.length)) _ _ (fun e he K1 K0 hK => ?_) ?_
          · walk_at "go"
            exact ⟨e, n, _, rfl, hw.2 _ rfl e he, hK⟩
          rw [List.nil_append]
          walk_at "rd"
          rw [show (D.bl (mdB CM x n ps.length) :: xs.map fun d => D.bl (mdB CM d n ps.length)) = (x :: xs).map (fun d => D.bl (mdB CM d n ps.length)) from rfl, all_map_bl (fun d => mdB CM d n ps.length)]
          walk_at "rd"
          rw [show (mdB CM x n ps.length :: xs.map fun d => mdB CM d n ps.length) = (x :: xs).map (fun d => mdB CM d n ps.length) from rfl, all_map_id]
          have e2 : msB CM (numD (.int n)) (.lst (x :: xs)) (lenD (.lst ps)) = (x :: xs).all fun m => mdB CM m n ps.length := rfl
          rw [e2] at q
          cases ha : (x :: xs).all fun m => mdB CM m n ps.length
          · rw [ha] at q
            walk_at "go"
            exact q
          rw [ha, if_pos rfl] at q
          have l1 : lenD (.lst ps) = ps.length := rfl
          have l2 : lenD (.lst (x :: xs)) = xs.length + 1 := rfl
          rw [l1, l2] at q
          walk_at "go"
          by_cases c1 : 6 < ps.length
          · rw [decide_eq_true (show (6 : Int) < (ps.length : Int) by omega)]
            rw [if_pos (.inl c1)] at q
            walk_at "go"
            exact q
          rw [decide_eq_false (show ¬ (6 : Int) < (ps.length : Int) by omega)]
          walk_at "go"
          by_cases c2 : 40 < xs.length + 1
          · rw [decide_eq_true (show (40 : Int) < ((xs.length + 1 : Nat) : Int) by omega)]
            rw [if_pos (.inr c2)] at q
            walk_at "go"
            exact q
          rw [decide_eq_false (show ¬ (40 : Int) < ((xs.length + 1 : Nat) : Int) by omega)]
          rw [if_neg (by omega)] at q
          walk_at "go"
          refine ⟨Nat.le_of_ble_eq_true rfl, ?_⟩
          walk_at "go"
          refine ⟨Nat.le_of_ble_eq_true rfl, ?_⟩
          walk_at "go"
          exact q
      | _ => first
        | exact absurd rfl hw.1.1
        | exact absurd rfl (hw.1.2 _)
        | (walk_at "go"; exact q)
    | _ => first
      | exact absurd rfl hb.1.1
      | exact absurd rfl (hb.1.2 _)
      | (walk_at "go"; exact q)
  | _ => first
    | exact absurd rfl hm
    | (walk_at "go"; exact q)
abbrev g_Thing_pushes (CT : Addr) : DF := fun ds Q _ => ∃ (m w : D) (ps : List D), ds = [.ins CT (thF m (.lst ps) w)] ∧ Q (.lst ps)
abbrev N_Thing_pushes : List Str := ["self"]
def tb_Thing_pushes (K : PySem.W.Frag) : DS :=
  (dRet (dCB kList (dCons (dFld K "bounds" (dVar 0)) dNil)))
theorem rd_Thing_pushes {K : PySem.W.Frag} {CM CT : Addr} (hK : ThK K CM CT) (ds : List D) (Q E : EQ) (_ : ds.length = 1) (h : g_Thing_pushes CT ds Q E) : tb_Thing_pushes K (dE Q E) (startD N_Thing_pushes ds) := by
  obtain ⟨m, w, ps, rfl, q⟩ := h
  have k2 := hK.f_Thing_bounds
  unfold tb_Thing_pushes dE thF
  walk_at "go"
  exact q
abbrev g_Thing_modes (CT : Addr) : DF := fun ds Q _ => ∃ (m b : D) (ms : List D), ds = [.ins CT (thF m b (.lst ms))] ∧ Q (.lst ms)
abbrev N_Thing_modes : List Str := ["self"]
def tb_Thing_modes (K : PySem.W.Frag) : DS :=
  (dRet (dCB kList (dCons (dFld K "ways" (dVar 0)) dNil)))
theorem rd_Thing_modes {K : PySem.W.Frag} {CM CT : Addr} (hK : ThK K CM CT) (ds : List D) (Q E : EQ) (_ : ds.length = 1) (h : g_Thing_modes CT ds Q E) : tb_Thing_modes K (dE Q E) (startD N_Thing_modes ds) := by
  obtain ⟨m, b, ms, rfl, q⟩ := h
  have k2 := hK.f_Thing_ways
  unfold tb_Thing_modes dE thF
  walk_at "go"
  exact q
end Dl

/-! The D-layer, part 37: reach. -/
namespace Dl
open PySem PySem.Spec
open PyProof.Rows L2
local macro_rules | `(tactic| walk_at "rd") => `(tactic| ((conv => whnf); (try dsimp only [startD, wipeD, q_map_cons, q_map_nil, q_app_cons, q_app_nil, q_len_cons, q_len_nil, q_rep_0, q_rep_s, q_get_0, q_get_s, q_set_0, q_set_s, ifP_t, ifP_f, Nat.reduceAdd, Nat.reduceSub, Int.reduceToNat, Int.reducePow, Int.reduceAdd, Int.reduceMul])))
local macro_rules | `(tactic| walk_at "bx") => `(tactic| first | with_reducible assumption | (apply bnd_mul <;> walk_at "bx") | (apply bnd_addM <;> walk_at "bx") | (apply bnd_subM <;> walk_at "bx") | (apply bnd_negM <;> walk_at "bx") | exact bnd_lit (k := 8) (by decide) | exact bnd_lit (k := 64) (by decide) | (with_reducible (apply_assumption)))
local macro_rules | `(tactic| walk_at "bd") => `(tactic| first | with_reducible assumption | (apply bnd_mono; (walk_at "bx"); first | omega | decide))
local macro_rules | `(tactic| walk_at "sd") => `(tactic| first | with_reducible assumption | omega | with_reducible rfl | exact (rfl : (_ : Bool) = true) | decide | exact few_of (by decide) | exact divOk_small (by decide) (by decide +kernel) | exact mulOk_r (by omega) (by omega) | exact mulOk_l (by omega) (by omega) | ((with_reducible apply mul_of); (walk_at "bx"); (walk_at "bx"); first | omega | decide) | exact few_of (by simp only [List.length_append, List.length_map, List.length_cons, List.length_nil, tab_len, List.length_replicate]; omega))
local macro_rules | `(tactic| walk_at "go") => `(tactic| ((try walk_at "rd"); (repeat (refine And.intro (by walk_at "sd") ?_; try walk_at "rd"))))
/-- lists of so many lists of so many ints -/
def lstL (n w : Nat) (R : Mat) : List D := (List.range n).map fun k => .lst (tabD w (R k))
theorem lstL_len {n w : Nat} {R : Mat} : (lstL n w R).length = n := rng_len
theorem lstL_get {n w k : Nat} {R : Mat} (h : k < n) : (lstL n w R)[k]? = some (.lst (tabD w (R k))) := rng_get h
def isSeqD (d : D) (xs : List D) : Prop := d = .tup xs ∨ d = .lst xs
abbrev g_summed_by : DF := fun ds Q _ => ∃ (k m w : Nat) (a : Nat → Int) (L : Mat) (nd : D), ds = [nd, .lst (lstL k w L), .int m] ∧ isSeqD nd (tabD k a) ∧ m ≤ w ∧ k ≤ 100 ∧ w ≤ 1000 ∧ (∀ j, bnd 5000 (a j)) ∧ (∀ i j, bnd 5000 (L i j)) ∧
  Q (.lst (tabD m fun j => dot a (fun i => L i j) k))
abbrev N_summed_by : List Str := ["numbers", "lists", "many", "found", "number", "some", "place"]
def tb_summed_by  : DS :=
  (dSq (dOwn 3 (dRepN (dLst (dCons (dC (.int 0)) dNil)) (dVarP 2))) (dSq (dFor (dZip (dVar 0) (dVar 1)) (gTp 2 (gCs (gNm 4) (gCs (gNm 5) gNl))) (dFor (dRng1 (dVarP 2)) (gNm 6) (dAugO 3 kAddI (dVarP 6) (dOp kMul (dVarP 4) (dOp kIx (dVarP 5) (dVarP 6)))))) (dFrz 3 (dRet (dVar 3)))))
theorem rd_summed_by (ds : List D) (Q E : EQ) (_ : ds.length = 3) (h : g_summed_by ds Q E) : tb_summed_by (dE Q E) (startD N_summed_by ds) := by
  obtain ⟨k, m, w, a, L, nd, rfl, hnd, hm, hk, hw, ha, hL, q⟩ := h
  have go : ∀ s4 s5 s6, loopD (gTp 2 (gCs (gNm 4) (gCs (gNm 5) gNl))) (dFor (dRng1 (dVarP 2)) (gNm 6) (dAugO 3 kAddI (dVarP 6) (dOp kMul (dVarP 4) (dOp kIx (dVarP 5) (dVarP 6))))) { dE Q E with nx := dFrz 3 (dRet (dVar 3)) (dE Q E) } (pairs (tabD k a) (lstL k w L))
      [.sh nd, .sh (.lst (lstL k w L)), .sh (.int m), .ow (tabD m fun _ => 0), s4, s5, s6] := fun s4 s5 s6 => by
    have pe : pairs (tabD k a) (lstL k w L) = (List.range k).map fun i => .tup [.int (a i), .lst (tabD w (L i))] := pairs_rng
    rw [pe]
    refine loop_ix (fun i ρ => ∃ s4 s5 s6, ρ = [.sh nd, .sh (.lst (lstL k w L)), .sh (.int m), .ow (tabD m fun j => dot a (fun i => L i j) i), s4, s5, s6]) _ ?_ ?_ ⟨_, _, _, rfl⟩
    · rintro ρ ⟨s4, s5, s6, rfl⟩
      rw [rng_len]
      unfold dE
      walk_at "go"
      exact q
    · rintro i x ρ hx ⟨s4, s5, s6, rfl⟩ N hN
      obtain ⟨hi, rfl⟩ := rng_inv hx
      unfold dE
      walk_at "go"
      rw [show (m : Int).toNat = m from rfl]
      refine loop_ix (fun j ρ => ∃ s6, ρ = [.sh nd, .sh (.lst (lstL k w L)), .sh (.int m), .ow (tabD m fun jj => if jj < j then dot a (fun i => L i jj) (i + 1) else dot a (fun i => L i jj) i), .sh (.int (a i)), .sh (.lst (tabD w (L i))), s6]) _ ?_ ?_ ⟨s6, by
        rw [show (fun jj => if jj < 0 then dot a (fun i => L i jj) (i + 1) else dot a (fun i => L i jj) i) = fun jj => dot a (fun i => L i jj) i from funext fun jj => if_neg (Nat.not_lt_zero jj)]⟩
      · rintro ρ ⟨s6, rfl⟩
        rw [irg_len]
        walk_at "rd"
        refine hN _ ⟨.sh (.int (a i)), .sh (.lst (tabD w (L i))), s6, ?_⟩
        congr 5
        exact tab_congr fun jj hj => if_pos hj
      · rintro j x ρ hx ⟨s6, rfl⟩ N' hN'
        obtain ⟨hj, rfl⟩ := irg_inv hx
        rw [Int.zero_add]
        have m1 := mul_of (ha i) (hL i j) (by decide)
        walk_at "rd"
        rw [tab_len, ixN_nn hj]
        walk_at "rd"
        rw [tab_get hj]
        walk_at "rd"
        rw [atI_nn, tab_get (by omega)]
        walk_at "go"
        refine hN' _ ⟨.sh (.int j), ?_⟩
        rw [tab_set]
        congr 5
        refine tab_congr fun jj hjj => ?_
        by_cases e : jj = j
        · rw [if_pos e, if_neg (Nat.lt_irrefl j), if_pos (show jj < j + 1 by omega), e]
          rfl
        · rw [if_neg e]
          by_cases l : jj < j
          · rw [if_pos l, if_pos (by omega)]
          · rw [if_neg l, if_neg (by omega)]
  unfold tb_summed_by
  rcases hnd with rfl | rfl
  all_goals
    unfold dE
    walk_at "go"
    refine ⟨few_of (by rw [rep_rng, rng_len, show (m : Int).toNat = m from rfl]; omega), ?_⟩
    rw [tab_rep, show (m : Int).toNat = m from rfl]
    walk_at "go"
    exact go _ _ _
/-- a row with so many noughts ahead of its bound -/
def widR (w p : Nat) (r : Nat → Int) : Nat → Int := fun j => if j < w then r j else if j < w + p then 0 else r w
theorem tab_app (m n : Nat) (F G : Nat → Int) : tabD m F ++ tabD n G = tabD (m + n) fun j => if j < m then F j else G (j - m) := by
  unfold tabD
  refine List.ext_getElem? fun i => ?_
  by_cases h1 : i < m
  · rw [List.getElem?_append_left (by rw [rng_len]; exact h1), rng_get h1, rng_get (by omega)]
    dsimp only
    rw [if_pos h1]
  · rw [List.getElem?_append_right (by rw [rng_len]; omega), rng_len]
    by_cases h2 : i < m + n
    · rw [rng_get (show i - m < n by omega), rng_get h2]
      dsimp only
      rw [if_neg h1]
    · rw [List.getElem?_eq_none (by rw [rng_len]; omega), List.getElem?_eq_none (by rw [rng_len]; omega)]
theorem tab_one (x : Int) : [D.int x] = tabD 1 fun _ => x := rfl
theorem cut_tab_init (w : Nat) (r : Nat → Int) : cut (tabD (w + 1) r) none (some (-1)) = tabD w r := by
  unfold tabD
  rw [List.range_succ, List.map_append, List.map_singleton, cut_init]
theorem nf_tab (w : Nat) (r : Nat → Int) : ¬ (HT.sIx (tabD (w + 1) r).length 0 none = 0 ∧ HT.sIx (tabD (w + 1) r).length (tabD (w + 1) r).length (some (-1)) = (tabD (w + 1) r).length) := by
  rintro ⟨-, z⟩
  rw [sIx_m1, tab_len] at z
  omega
theorem tab_ne {w : Nat} {r : Nat → Int} (h : 0 < w) : tabD w r ≠ [] := fun z => by
  have := congrArg List.length z
  rw [tab_len] at this
  cases this
  exact absurd h (Nat.lt_irrefl _)
theorem rep0 (p : Nat) : (List.replicate (p : Int).toNat [D.int 0]).flatten = tabD p fun _ => 0 := by rw [tab_rep, show (p : Int).toNat = p from rfl]
abbrev g_widened : DF := fun ds Q _ => ∃ (w p : Nat) (rs : List (Nat → Int)), ds = [.lst (rs.map (rowW (w + 1))), .int p] ∧ 0 < w ∧ w ≤ 100 ∧ p ≤ 100 ∧ Q (.lst ((rs.map (widR w p)).map (rowW (w + p + 1))))
abbrev N_widened : List Str := ["rows", "many", "row"]
def tb_widened  : DS :=
  (dRet (dFz (dLcN (dSeq (dVar 0)) (gNm 2) dYes (dOp kAdd (dOp kAdd (dCB kTuple (dCons (dSl (dVarP 2) dNoPart (dPart (dNeg (dC (.int 1))))) dNil)) (dOp kMulB (dTup (dCons (dC (.int 0)) dNil)) (dVarP 1))) (dTup (dCons (dOp kIx (dVarP 2) (dNeg (dC (.int 1)))) dNil))) [2])))
theorem rd_widened (ds : List D) (Q E : EQ) (_ : ds.length = 2) (h : g_widened ds Q E) : tb_widened (dE Q E) (startD N_widened ds) := by
  obtain ⟨w, p, rs, rfl, hw0, hw, hp, q⟩ := h
  unfold tb_widened dE
  walk_at "go"
  refine comp_ix (fun k => (((rs.map (widR w p)).map (rowW (w + p + 1)))[k]?).getD .non) _ (fun k x hx K1 K0 hK => ?_) ?_
  · rw [List.getElem?_map] at hx
    cases hr : rs[k]? with
    | none => rw [hr] at hx; cases hx
    | some r =>
      rw [hr] at hx
      cases hx
      rw [List.getElem?_map, List.getElem?_map, hr] at hK
      have hK : K1 (rowW (w + p + 1) (widR w p r)) := hK
      unfold rowW
      walk_at "rd"
      refine ⟨nf_tab _ _, ?_⟩
      rw [cut_tab_init]
      walk_at "go"
      rw [rep0]
      refine ⟨tab_ne hw0, few_of (by rw [List.length_append, tab_len, tab_len]; omega), ?_⟩
      walk_at "rd"
      rw [tab_last]
      walk_at "go"
      refine ⟨fun z => tab_ne hw0 (List.append_eq_nil_iff.mp z).1, few_of (by rw [List.length_append, List.length_append, tab_len, tab_len, List.length_singleton]; omega), ?_⟩
      rw [tab_app, tab_one, tab_app]
      have e : tabD (w + p + 1) (fun j => if j < w + p then (if j < w then r j else 0) else r w) = tabD (w + p + 1) (widR w p r) := tab_congr fun j hj => by
        unfold widR
        by_cases h1 : j < w
        · rw [if_pos h1, if_pos (show j < w + p by omega), if_pos h1]
        · rw [if_neg h1, if_neg h1]
      rw [e]
      exact hK
  · rw [List.length_map]
    have e : (List.range rs.length).map (fun k => (((rs.map (widR w p)).map (rowW (w + p + 1)))[k]?).getD .non) = (rs.map (widR w p)).map (rowW (w + p + 1)) := by
      refine List.ext_getElem? fun i => ?_
      by_cases hi : i < rs.length
      · rw [rng_get hi, List.getElem?_map, List.getElem?_map, List.getElem?_eq_getElem hi]
        rfl
      · rw [List.getElem?_eq_none (by rw [rng_len]; omega), List.getElem?_eq_none (by rw [List.length_map, List.length_map]; omega)]
    rw [e]
    exact q
end Dl

/-! The D-layer, part 38: standing, reach. -/
namespace Dl
open PySem PySem.Spec
open PyProof.Rows L2
local macro_rules | `(tactic| walk_at "rd") => `(tactic| ((conv => whnf); (try dsimp only [startD, wipeD, q_map_cons, q_map_nil, q_app_cons, q_app_nil, q_len_cons, q_len_nil, q_rep_0, q_rep_s, q_get_0, q_get_s, q_set_0, q_set_s, ifP_t, ifP_f, Nat.reduceAdd, Nat.reduceSub, Int.reduceToNat, Int.reducePow, Int.reduceAdd, Int.reduceMul])))
local macro_rules | `(tactic| walk_at "bx") => `(tactic| first | with_reducible assumption | (apply bnd_mul <;> walk_at "bx") | (apply bnd_addM <;> walk_at "bx") | (apply bnd_subM <;> walk_at "bx") | (apply bnd_negM <;> walk_at "bx") | exact bnd_lit (k := 8) (by decide) | exact bnd_lit (k := 64) (by decide) | (with_reducible (apply_assumption)))
local macro_rules | `(tactic| walk_at "bd") => `(tactic| first | with_reducible assumption | (apply bnd_mono; (walk_at "bx"); first | omega | decide))
local macro_rules | `(tactic| walk_at "sd") => `(tactic| first | with_reducible assumption | omega | with_reducible rfl | exact (rfl : (_ : Bool) = true) | exact (rfl : @Eq (Option D) _ none) | decide | exact few_of (by decide) | exact divOk_small (by decide) (by decide +kernel) | exact mulOk_r (by omega) (by omega) | exact mulOk_l (by omega) (by omega) | ((with_reducible apply mul_of); (walk_at "bx"); (walk_at "bx"); first | omega | decide) | exact few_of (by simp only [List.length_append, List.length_map, List.length_cons, List.length_nil, tab_len, List.length_replicate]; omega))
local macro_rules | `(tactic| walk_at "go") => `(tactic| ((try walk_at "rd"); (repeat (refine And.intro (by walk_at "sd") ?_; try walk_at "rd"))))
def pD (p : Int × Int) : D := .tup [.int p.1, .int p.2]
def prowF (n p i : Nat) (s b : Int) : Nat → Int := fun j => if j = n + i then s else if j = n + p then b else 0
def pushL (n p : Nat) : Nat → List (Int × Int) → List (Nat → Int)
  | _, [] => []
  | i, x :: ps => prowF n p i 1 x.2 :: prowF n p i (-1) (0 - x.1) :: pushL n p (i + 1) ps
theorem pushL_snoc (n p : Nat) (x : Int × Int) : ∀ (ps : List (Int × Int)) (i : Nat), pushL n p i (ps ++ [x]) = pushL n p i ps ++ [prowF n p (i + ps.length) 1 x.2, prowF n p (i + ps.length) (-1) (0 - x.1)]
  | [], i => rfl
  | y :: ps, i => by
    show prowF n p i 1 y.2 :: prowF n p i (-1) (0 - y.1) :: pushL n p (i + 1) (ps ++ [x]) = _
    rw [pushL_snoc n p x ps (i + 1), List.length_cons, show i + 1 + ps.length = i + (ps.length + 1) by omega]
    rfl
theorem pushL_len (n p : Nat) : ∀ (l : List (Int × Int)) (i : Nat), (pushL n p i l).length = 2 * l.length
  | [], i => rfl
  | x :: l, i => by show (pushL n p (i + 1) l).length + 1 + 1 = _; rw [pushL_len n p l, List.length_cons]; omega
theorem num_get {xs : List D} {k : Nat} {x : D} (h : xs[k]? = some x) : (numbered 0 xs)[k]? = some (.tup [.int k, x]) := by
  rw [numbered_eq]
  have hk := (List.getElem?_eq_some_iff.mp h).1
  have := irg_get xs.length 0 k hk
  rw [Int.zero_add] at this
  exact pairs_get this h
theorem num_inv {xs : List D} {k : Nat} {d : D} (h : (numbered 0 xs)[k]? = some d) : ∃ x, xs[k]? = some x ∧ d = .tup [.int k, x] := by
  have hk := (List.getElem?_eq_some_iff.mp h).1
  rw [numbered_eq, pairs_len, irg_len, Nat.min_self] at hk
  refine ⟨xs[k], List.getElem?_eq_getElem hk, ?_⟩
  rw [num_get (List.getElem?_eq_getElem hk)] at h
  exact (Option.some.inj h).symm
theorem num_len {xs : List D} : (numbered 0 xs).length = xs.length := by rw [numbered_eq, pairs_len, irg_len, Nat.min_self]
theorem take_tab {m k : Nat} {F : Nat → Int} (h : k ≤ m) : (tabD m F).take k = tabD k F := by
  unfold tabD
  rw [← List.map_take, List.take_range, Nat.min_eq_left h]
theorem drop_tab {m k : Nat} {F : Nat → Int} : (tabD m F).drop k = tabD (m - k) fun j => F (j + k) := by
  refine List.ext_getElem? fun i => ?_
  rw [List.getElem?_drop]
  by_cases h : k + i < m
  · rw [tab_get h, tab_get (show i < m - k by omega), Nat.add_comm]
  · rw [List.getElem?_eq_none (by rw [tab_len]; omega), List.getElem?_eq_none (by rw [tab_len]; omega)]
theorem prow_eq (n p i : Nat) (s b : Int) (h : i < p) : ((tabD n (fun _ => 0) ++ tabD i (fun _ => 0)) ++ [D.int s]) ++ tabD (p - (i + 1)) (fun _ => 0) ++ [.int b] = tabD (n + p + 1) (prowF n p i s b) := by
  rw [tab_app, tab_one, tab_app, tab_app, tab_one, tab_app, show n + i + 1 + (p - (i + 1)) + 1 = n + p + 1 by omega]
  refine tab_congr fun j hj => ?_
  unfold prowF
  repeat' split
  all_goals first | rfl | omega
/-- a thing's tree, told by its parts -/
def thI (CT : Addr) (n : Nat) (ps : List (Int × Int)) (ms : List D) : D := .ins CT (thF (.int n) (.lst (ps.map pD)) (.lst ms))
abbrev g_push_rows (CT : Addr) : DF := fun ds Q _ => ∃ (n : Nat) (ps : List (Int × Int)) (ms : List D), ds = [thI CT n ps ms] ∧ 0 < n ∧ n ≤ 10 ∧ ps.length ≤ 10 ∧ Q (.lst ((pushL n ps.length 0 ps).map (rowW (n + ps.length + 1))))
abbrev N_push_rows : List Str := ["thing", "pushes", "blank", "found", "at", "low", "high", "ahead"]
def tb_push_rows (K : PySem.W.Frag) (C_Thing : Addr) : DS :=
  (dSq (dSet 1 (dMeth C_Thing "pushes" 1 (g_Thing_pushes C_Thing) (dVar 0) dNil)) (dSq (dSet 2 (dOp kMulB (dTup (dCons (dC (.int 0)) dNil)) (dCB kLen (dCons (dVarP 1) dNil)))) (dSq (dOwn 3 (dLstN dNil)) (dSq (dFor (dEnum (dVar 1)) (gTp 2 (gCs (gNm 4) (gCs (gTp 2 (gCs (gNm 5) (gCs (gNm 6) gNl))) gNl))) (dSq (dSet 7 (dOp kAdd (dOp kMulB (dTup (dCons (dC (.int 0)) dNil)) (dFld K "many" (dVar 0))) (dSl (dVarP 2) dNoPart (dPart (dVarP 4))))) (dSq (dApp 3 (dOp kAdd (dOp kAdd (dOp kAdd (dVarP 7) (dTup (dCons (dC (.int 1)) dNil))) (dSl (dVarP 2) (dPart (dOp kAdd (dVarP 4) (dC (.int 1)))) dNoPart)) (dTup (dCons (dVar 6) dNil)))) (dApp 3 (dOp kAdd (dOp kAdd (dOp kAdd (dVarP 7) (dTup (dCons (dNeg (dC (.int 1))) dNil))) (dSl (dVarP 2) (dPart (dOp kAdd (dVarP 4) (dC (.int 1)))) dNoPart)) (dTup (dCons (dOp kSub (dC (.int 0)) (dVarP 5)) dNil))))))) (dFrz 3 (dRet (dVar 3)))))))
theorem rd_push_rows {K : PySem.W.Frag} {CM CT : Addr} (hK : ThK K CM CT) (ds : List D) (Q E : EQ) (_ : ds.length = 1) (h : g_push_rows CT ds Q E) : tb_push_rows K CT (dE Q E) (startD N_push_rows ds) := by
  obtain ⟨n, ps, ms, rfl, hn0, hn, hp, q⟩ := h
  have k1 := hK.f_Thing_many
  unfold tb_push_rows dE thI
  walk_at "go"
  refine ⟨_, _, _, rfl, ?_⟩
  walk_at "go"
  rw [List.length_map]
  refine ⟨by omega, by omega, ?_⟩
  rw [rep0]
  walk_at "go"
  refine loop_ix (fun k ρ => ∃ s4 s5 s6 s7, ρ = [.sh (thI CT n ps ms), .sh (.lst (ps.map pD)), .sh (.tup (tabD ps.length fun _ => 0)), .ow ((pushL n ps.length 0 (ps.take k)).map (rowW (n + ps.length + 1))), s4, s5, s6, s7]) _ ?_ ?_ ⟨_, _, _, _, rfl⟩
  · rintro ρ ⟨s4, s5, s6, s7, rfl⟩
    rw [num_len, List.length_map, List.take_length]
    walk_at "go"
    exact q
  · rintro k d ρ hx ⟨s4, s5, s6, s7, rfl⟩ N hN
    obtain ⟨x, hx2, rfl⟩ := num_inv hx
    clear hx
    rw [List.getElem?_map] at hx2
    cases hpk : ps[k]? with
    | none => rw [hpk] at hx2; cases hx2
    | some p =>
      rw [hpk] at hx2
      cases hx2
      have hk := (List.getElem?_eq_some_iff.mp hpk).1
      have c1 : cut (tabD ps.length fun _ => 0) none (some (k : Int)) = tabD k fun _ => 0 := by rw [cut_take, take_tab (by omega)]
      have c2 : cut (tabD ps.length fun _ => 0) (some ((k : Int) + 1)) none = tabD (ps.length - (k + 1)) fun _ => 0 := by rw [show (k : Int) + 1 = ((k + 1 : Nat) : Int) by omega, cut_drop, drop_tab]
      have n1 : ¬ (HT.sIx (tabD ps.length fun _ => 0).length 0 none = 0 ∧ HT.sIx (tabD ps.length fun _ => 0).length (tabD ps.length fun _ => 0).length (some (k : Int)) = (tabD ps.length fun _ => 0).length) := by
        rintro ⟨-, z⟩
        rw [HT.sIx_nat, tab_len] at z
        omega
      have n2 : ¬ (HT.sIx (tabD ps.length fun _ => 0).length 0 (some ((k : Int) + 1)) = 0 ∧ HT.sIx (tabD ps.length fun _ => 0).length (tabD ps.length fun _ => 0).length none = (tabD ps.length fun _ => 0).length) := by
        rintro ⟨z, -⟩
        rw [show (k : Int) + 1 = ((k + 1 : Nat) : Int) by omega, HT.sIx_nat, tab_len] at z
        omega
      have ne1 : tabD n (fun _ => (0 : Int)) ≠ [] := tab_ne hn0
      have ne2 : tabD n (fun _ => (0 : Int)) ++ tabD k (fun _ => 0) ≠ [] := fun z => ne1 (List.append_eq_nil_iff.mp z).1
      have ne3 : ∀ (x : Int), tabD n (fun _ => (0 : Int)) ++ tabD k (fun _ => 0) ++ [.int x] ≠ [] := fun x z => ne2 (List.append_eq_nil_iff.mp z).1
      have ne4 : ∀ (x : Int), tabD n (fun _ => (0 : Int)) ++ tabD k (fun _ => 0) ++ [.int x] ++ tabD (ps.length - (k + 1)) (fun _ => 0) ≠ [] := fun x z => ne3 x (List.append_eq_nil_iff.mp z).1
      have ne31 := ne3 1
      have ne32 := ne3 (-1)
      have ne41 := ne4 1
      have ne42 := ne4 (-1)
      have tk : (ps.take k).length = k := by rw [List.length_take]; omega
      unfold thI pD
      walk_at "go"
      rw [rep0]
      walk_at "go"
      rw [c1]
      walk_at "go"
      rw [c2]
      walk_at "go"
      rw [prow_eq n ps.length k 1 p.2 hk]
      refine ⟨few_of (by rw [List.length_append, List.length_map, pushL_len, tk, List.length_singleton]; omega), ?_⟩
      walk_at "go"
      rw [c2]
      walk_at "go"
      rw [prow_eq n ps.length k (-1) (0 - p.1) hk]
      refine ⟨few_of (by rw [List.length_append, List.length_append, List.length_map, pushL_len, tk, List.length_singleton, List.length_singleton]; omega), ?_⟩
      have e : (pushL n ps.length 0 (ps.take k)).map (rowW (n + ps.length + 1)) ++ [.tup (tabD (n + ps.length + 1) (prowF n ps.length k 1 p.2))] ++ [.tup (tabD (n + ps.length + 1) (prowF n ps.length k (-1) (0 - p.1)))] = (pushL n ps.length 0 (ps.take (k + 1))).map (rowW (n + ps.length + 1)) := by
        rw [List.take_succ, hpk, show (some p).toList = [p] from rfl, pushL_snoc, tk, Nat.zero_add, List.map_append, List.append_assoc]
        rfl
      rw [e]
      exact hN _ ⟨_, _, _, _, rfl⟩
abbrev g_standing (CT : Addr) : DF := fun ds Q _ => ∃ (n : Nat) (ps : List (Int × Int)) (ms : List D) (rs : List (Nat → Int)), ds = [thI CT n ps ms, .lst (rs.map (rowW (n + 1)))] ∧ 0 < n ∧ n ≤ 10 ∧ ps.length ≤ 10 ∧ rs.length ≤ 1000 ∧
  Q (.lst ((rs.map (widR n ps.length) ++ pushL n ps.length 0 ps).map (rowW (n + ps.length + 1))))
abbrev N_standing : List Str := ["thing", "rows"]
def tb_standing (C_Thing : Addr) : DS :=
  (dRet (dOp kAdd (dCall 2 [] g_widened (dCons (dVar 1) (dCons (dCB kLen (dCons (dMeth C_Thing "pushes" 1 (g_Thing_pushes C_Thing) (dVar 0) dNil) dNil)) dNil))) (dCall 1 [] (g_push_rows C_Thing) (dCons (dVar 0) dNil))))
theorem rd_standing {CT : Addr} (ds : List D) (Q E : EQ) (_ : ds.length = 2) (h : g_standing CT ds Q E) : tb_standing CT (dE Q E) (startD N_standing ds) := by
  obtain ⟨n, ps, ms, rs, rfl, hn0, hn, hp, hr, q⟩ := h
  unfold tb_standing dE thI
  walk_at "go"
  refine ⟨_, _, _, rfl, ?_⟩
  walk_at "go"
  rw [List.length_map]
  refine ⟨n, ps.length, rs, rfl, hn0, by omega, by omega, ?_⟩
  walk_at "go"
  refine ⟨n, ps, ms, rfl, hn0, hn, hp, ?_⟩
  walk_at "go"
  refine ⟨few_of (by rw [List.length_append, List.length_map, List.length_map, List.length_map, pushL_len]; omega), ?_⟩
  rw [← List.map_append]
  exact q
/-- a mode's tree -/
structure Md where
  rows : List (Nat → Int)
  nexts : Mat
  steer : Nat → Int
  push : Mat
  add : Nat → Int
  div : Int
def mdI (CM : Addr) (n p : Nat) (m : Md) : D := .ins CM (mdF (.lst (m.rows.map (rowW (n + 1)))) (.lst (lstL n n m.nexts)) (.lst (tabD n m.steer)) (.lst (lstL n p m.push)) (.lst (tabD n m.add)) (.int m.div))
structure okMd (b : Nat) (m : Md) : Prop where
  nexts : ∀ i j, bnd b (m.nexts i j)
  push : ∀ i j, bnd b (m.push i j)
  add : ∀ i, bnd b (m.add i)
  div : bnd b m.div
def reaF (n p : Nat) (m : Md) (r : Nat → Int) : Nat → Int := fun j =>
  if j < n then dot r (fun i => m.nexts i j) n else if j < n + p then dot r (fun i => m.push i (j - n)) n else m.div * r n - dot r m.add n
abbrev g_reach (CM CT : Addr) : DF := fun ds Q _ => ∃ (n : Nat) (ps : List (Int × Int)) (ms : List D) (m : Md) (r : Nat → Int), ds = [thI CT n ps ms, mdI CM n ps.length m, rowW (n + 1) r] ∧ 0 < n ∧ n ≤ 10 ∧ ps.length ≤ 10 ∧ okMd 3000 m ∧ (∀ j, bnd 3000 (r j)) ∧
  Q (rowW (n + ps.length + 1) (reaF n ps.length m r))
abbrev N_reach : List Str := ["thing", "mode", "row", "numbers", "bound", "i"]
def tb_reach (K : PySem.W.Frag) (C_Thing : Addr) : DS :=
  (dSq (dSet 3 (dCall 3 [] g_summed_by (dCons (dSl (dVarP 2) dNoPart (dPart (dNeg (dC (.int 1))))) (dCons (dFld K "nexts" (dVar 1)) (dCons (dFld K "many" (dVar 0)) dNil))))) (dSq (dSet 3 (dOp kAdd (dVarP 3) (dCall 3 [] g_summed_by (dCons (dSl (dVarP 2) dNoPart (dPart (dNeg (dC (.int 1))))) (dCons (dFld K "push" (dVar 1)) (dCons (dCB kLen (dCons (dMeth C_Thing "pushes" 1 (g_Thing_pushes C_Thing) (dVar 0) dNil) dNil)) dNil)))))) (dSq (dSet 4 (dOp kSub (dOp kMul (dFld K "divisor" (dVar 1)) (dOp kIx (dVarP 2) (dNeg (dC (.int 1))))) (dCB kSum (dCons (dFz (dLcN (dRng1 (dFld K "many" (dVar 0))) (gNm 5) dYes (dOp kMul (dOp kIx (dVarP 2) (dVarP 5)) (dOp kIx (dFld K "add" (dVar 1)) (dVarP 5))) [5])) dNil)))) (dRet (dOp kAdd (dCB kTuple (dCons (dVarP 3) dNil)) (dTup (dCons (dVar 4) dNil)))))))
theorem rd_reach {K : PySem.W.Frag} {CM CT : Addr} (hK : ThK K CM CT) (ds : List D) (Q E : EQ) (_ : ds.length = 3) (h : g_reach CM CT ds Q E) : tb_reach K CT (dE Q E) (startD N_reach ds) := by
  obtain ⟨n, ps, ms, m, r, rfl, hn0, hn, hp, om, hr, q⟩ := h
  have k1 := hK.f_Thing_many
  have k2 := hK.f_Mode_nexts
  have k3 := hK.f_Mode_push
  have k4 := hK.f_Mode_divisor
  have k5 := hK.f_Mode_add
  unfold tb_reach dE thI mdI mdF rowW
  walk_at "go"
  refine ⟨nf_tab _ _, ?_⟩
  rw [cut_tab_init]
  walk_at "go"
  refine ⟨n, n, n, r, m.nexts, _, rfl, .inl rfl, Nat.le_refl _, by omega, by omega, fun j => bnd_mono (hr j) (by decide), fun i j => bnd_mono (om.nexts i j) (by decide), ?_⟩
  walk_at "go"
  refine ⟨nf_tab _ _, ?_⟩
  rw [cut_tab_init]
  walk_at "go"
  refine ⟨_, _, _, rfl, ?_⟩
  walk_at "go"
  rw [List.length_map]
  refine ⟨n, ps.length, ps.length, r, m.push, _, rfl, .inl rfl, Nat.le_refl _, by omega, by omega, fun j => bnd_mono (hr j) (by decide), fun i j => bnd_mono (om.push i j) (by decide), ?_⟩
  walk_at "go"
  rw [tab_last]
  have m1 := mul_of om.div (hr n) (by decide)
  walk_at "go"
  refine comp_ix (fun i => .int (r i * m.add i)) _ (fun i d hd K1 K0 hK => ?_) ?_
  · obtain ⟨hi, rfl⟩ := irg_inv hd
    rw [show (n : Int).toNat = n from rfl] at hi
    rw [Int.zero_add]
    have m2 := mul_of (hr i) (om.add i) (by decide)
    walk_at "rd"
    rw [atI_nn, tab_get (by omega)]
    walk_at "go"
    rw [atI_nn, tab_get hi]
    walk_at "go"
    exact hK
  rw [irg_len, show (n : Int).toNat = n from rfl]
  walk_at "rd"
  rw [show (List.range n).map (fun i => D.int (r i * m.add i)) = ((List.range n).map fun i => r i * m.add i).map D.int by rw [List.map_map]; rfl, intsOf_map]
  walk_at "go"
  rw [sum_dot]
  walk_at "go"
  refine ⟨fun z => tab_ne hn0 (List.append_eq_nil_iff.mp z).1, few_of (by rw [List.length_append, List.length_append, tab_len, tab_len, List.length_singleton]; omega), ?_⟩
  rw [tab_app, tab_one, tab_app]
  have e : tabD (n + ps.length + 1) (fun j => if j < n + ps.length then (if j < n then dot r (fun i => m.nexts i j) n else dot r (fun i => m.push i (j - n)) n) else m.div * r n - dot r m.add n) = tabD (n + ps.length + 1) (reaF n ps.length m r) := tab_congr fun j hj => by
    unfold reaF
    by_cases h1 : j < n
    · rw [if_pos h1, if_pos (show j < n + ps.length by omega), if_pos h1]
    · rw [if_neg h1, if_neg h1]
  rw [e]
  exact q
end Dl

/-! The D-layer, part 39: rows held at points, whatever the bottom is. -/
namespace Dl
open PySem PySem.Spec
open PyProof.Rows L2
local macro_rules | `(tactic| walk_at "rd") => `(tactic| ((conv => whnf); (try dsimp only [startD, wipeD, q_map_cons, q_map_nil, q_app_cons, q_app_nil, q_len_cons, q_len_nil, q_rep_0, q_rep_s, q_get_0, q_get_s, q_set_0, q_set_s, ifP_t, ifP_f, Nat.reduceAdd, Nat.reduceSub, Int.reduceToNat, Int.reducePow, Int.reduceAdd, Int.reduceMul])))
local macro_rules | `(tactic| walk_at "bx") => `(tactic| first | with_reducible assumption | (apply bnd_mul <;> walk_at "bx") | (apply bnd_addM <;> walk_at "bx") | (apply bnd_subM <;> walk_at "bx") | (apply bnd_negM <;> walk_at "bx") | exact bnd_lit (k := 8) (by decide) | exact bnd_lit (k := 64) (by decide) | (with_reducible (apply_assumption)))
local macro_rules | `(tactic| walk_at "bd") => `(tactic| first | with_reducible assumption | (apply bnd_mono; (walk_at "bx"); first | omega | decide))
local macro_rules | `(tactic| walk_at "sd") => `(tactic| first | with_reducible assumption | omega | with_reducible rfl | exact (rfl : (_ : Bool) = true) | exact (rfl : @Eq (Option D) _ none) | decide | exact few_of (by decide) | exact divOk_small (by decide) (by decide +kernel) | exact mulOk_r (by omega) (by omega) | exact mulOk_l (by omega) (by omega) | ((with_reducible apply mul_of); (walk_at "bx"); (walk_at "bx"); first | omega | decide) | exact few_of (by simp only [List.length_append, List.length_map, List.length_cons, List.length_nil, tab_len, List.length_replicate]; omega))
local macro_rules | `(tactic| walk_at "go") => `(tactic| ((try walk_at "rd"); (repeat (refine And.intro (by walk_at "sd") ?_; try walk_at "rd"))))
abbrev g_num9 : DF := fun ds Q _ => ∃ x : Int, ds = [.int x] ∧ ∀ r : Int, -(10 ^ 9) < r → r < 10 ^ 9 → Q (.int r)
abbrev N_num9 : List Str := ["_law_x"]
def tb_num9  : DS :=
  (dRet (dOp kMul (dOp kMod (dOp kDiv (dVarP 0) (dC (.int 8))) (dOp kIx (dLst (dCons (dC (.int 1)) (dCons (dC (.int 4)) (dCons (dC (.int 4)) (dCons (dOp kPow (dC (.int 10)) (dC (.int 9))) dNil))))) (dOp kMod (dVarP 0) (dC (.int 4))))) (dOp kSub (dC (.int 1)) (dOp kMul (dOp kMod (dOp kDiv (dVarP 0) (dC (.int 4))) (dC (.int 2))) (dC (.int 2))))))
theorem rd_num9 (ds : List D) (Q E : EQ) (_ : ds.length = 1) (h : g_num9 ds Q E) : tb_num9 (dE Q E) (startD N_num9 ds) := by
  obtain ⟨x, rfl, q⟩ := h
  unfold tb_num9 dE
  walk_at "go"
  obtain ⟨y, hy, hc⟩ := pick4' 1 4 4 1000000000 x
  rw [hy]
  have z1 : 0 < y := by omega
  have m1 := Int.fmod_nonneg_of_pos (x.fdiv 8) z1
  have m2 := Int.fmod_lt_of_pos (x.fdiv 8) z1
  have hv := two (x.fdiv 4)
  walk_at "go"
  generalize (x.fdiv 8).fmod y = u at *
  generalize (x.fdiv 4).fmod 2 = v at *
  rcases hv with rfl | rfl
  · exact q _ (by omega) (by omega)
  · exact q _ (by omega) (by omega)
/-- a row, held at a point -/
def hldB (N : Nat) (r : Nat → Int) (x : Nat → Int × Int) : Bool := decide (dot r (topN x N) N ≤ r N * pdN x N)
abbrev g_holdsB : DF := fun ds Q _ => ∃ (N B : Nat) (r : Nat → Int) (x : Nat → Int × Int) (row : D), ds = [row, ptF N x] ∧ (row = .tup (tabD (N + 1) r) ∨ row = .lst (tabD (N + 1) r)) ∧ N ≤ 9 ∧ B ≤ 4000 ∧ (∀ j, bnd 4000 (r j)) ∧ okX B N x ∧ Q (.bl (hldB N r x))
abbrev N_holdsB : List Str := ["_law_row", "_law_point", "_law_top", "_law_bottom"]
def tb_holdsB  : DS :=
  (dSq (dAsg (dCall 2 [] g_alongB (dCons (dVar 0) (dCons (dVar 1) dNil))) (gTp 2 (gCs (gNm 2) (gCs (gNm 3) gNl)))) (dRet (dOp kLe (dVarP 2) (dOp kMul (dOp kIx (dVarP 0) (dNeg (dC (.int 1)))) (dVarP 3)))))
theorem rd_holdsB (ds : List D) (Q E : EQ) (_ : ds.length = 2) (h : g_holdsB ds Q E) : tb_holdsB (dE Q E) (startD N_holdsB ds) := by
  obtain ⟨N, B, r, x, row, rfl, hrow, hN, hB, hr, ox, q⟩ := h
  unfold tb_holdsB dE
  walk_at "go"
  refine ⟨N, N + 1, B, r, x, row, rfl, hrow, by omega, hN, hB, hr, ox, ?_⟩
  have bP := pdN_bnd (B := B) (x := x) (n := N) fun k hk => (ox k hk).2.2
  have m1 := mul_of (hr N) bP (by have := Nat.mul_le_mul hB hN; omega)
  walk_at "go"
  rcases hrow with rfl | rfl
  · walk_at "rd"
    rw [tab_last]
    walk_at "go"
    exact q
  · walk_at "rd"
    rw [tab_last]
    walk_at "go"
    exact q
/-- a point's tops over any bottom -/
def tpP (P : Int) (x : Nat → Int × Int) : Nat → Int := fun k => (x k).1 * P.fdiv (x k).2
theorem tpP_swap {P P' : Int} {x : Nat → Int × Int} {k : Nat} (h0 : 0 < (x k).2) (h1 : (x k).2 ∣ P) (h2 : (x k).2 ∣ P') : P' * tpP P x k = P * tpP P' x k := by
  unfold tpP
  obtain ⟨c, hc⟩ := h1
  obtain ⟨c', hc'⟩ := h2
  rw [hc, hc', Int.mul_fdiv_cancel_left _ (by omega), Int.mul_fdiv_cancel_left _ (by omega)]
  grind
theorem dot_swap {P P' : Int} {x : Nat → Int × Int} {n : Nat} (r : Nat → Int) (h0 : ∀ k, k < n → 0 < (x k).2) (h1 : ∀ k, k < n → (x k).2 ∣ P) (h2 : ∀ k, k < n → (x k).2 ∣ P') : P' * dot r (tpP P x) n = P * dot r (tpP P' x) n := by
  rw [← dot_mul_r, ← dot_mul_r]
  exact dot_congr_r fun k hk => tpP_swap (h0 k hk) (h1 k hk) (h2 k hk)
theorem le_scale {a b c d p q : Int} (hp : 0 < p) (hq : 0 < q) (h1 : p * a = q * c) (h2 : p * b = q * d) : a ≤ b ↔ c ≤ d := by
  constructor
  · intro h
    have := Int.mul_le_mul_of_nonneg_left h (Int.le_of_lt hp)
    rw [h1, h2] at this
    exact Int.le_of_mul_le_mul_left this hq
  · intro h
    have := Int.mul_le_mul_of_nonneg_left h (Int.le_of_lt hq)
    rw [← h1, ← h2] at this
    exact Int.le_of_mul_le_mul_left this hp
/-- held, over any bottom -/
theorem hldB_any {P : Int} {N : Nat} (r : Nat → Int) {x : Nat → Int × Int} (h0 : ∀ k, k < N → 0 < (x k).2) (hP : 0 < P) (h1 : ∀ k, k < N → (x k).2 ∣ P) : hldB N r x = decide (dot r (tpP P x) N ≤ r N * P) := by
  unfold hldB
  have p0 := pdN_pos (x := x) (n := N) h0
  have e := dot_swap r h0 h1 (fun k hk => pdN_dvd (x := x) hk)
  have : topN x N = tpP (pdN x N) x := rfl
  rw [this]
  exact decide_eq_decide.mpr (le_scale hP p0 e.symm (by grind))
theorem hldB_congr {N : Nat} {r s : Nat → Int} {x : Nat → Int × Int} (h : ∀ j, j ≤ N → r j = s j) : hldB N r x = hldB N s x := by
  unfold hldB
  rw [dot_congr fun j hj => h j (by omega), h N (Nat.le_refl _)]
theorem dot_add (r s y : Nat → Int) : ∀ n, dot (fun j => r j + s j) y n = dot r y n + dot s y n
  | 0 => rfl
  | n + 1 => by unfold dot; rw [dot_add r s y n]; grind
theorem dot_add_r (r y z : Nat → Int) : ∀ n, dot r (fun j => y j + z j) n = dot r y n + dot r z n
  | 0 => rfl
  | n + 1 => by unfold dot; rw [dot_add_r r y z n]; grind
/-- sums may be turned -/
theorem dot_turn (a y : Nat → Int) (L : Mat) (k : Nat) : ∀ n, dot (fun j => dot a (fun i => L i j) k) y n = dot a (fun i => dot (L i) y n) k
  | 0 => by
    rw [show (fun i => dot (L i) y 0) = fun i => 0 * (0 : Int) from funext fun i => rfl, dot_mul_r, Int.zero_mul]
    rfl
  | n + 1 => by
    show dot (fun j => dot a (fun i => L i j) k) y n + dot a (fun i => L i n) k * y n = dot a (fun i => dot (L i) y n + L i n * y n) k
    rw [dot_add_r, dot_turn a y L k n, show (fun i => L i n * y n) = fun i => y n * L i n from funext fun i => Int.mul_comm _ _, dot_mul_r]
    grind
theorem dot_app (r y : Nat → Int) (n : Nat) : ∀ p, dot r y (n + p) = dot r y n + dot (fun j => r (n + j)) (fun j => y (n + j)) p
  | 0 => by show dot r y n = dot r y n + 0; omega
  | p + 1 => by
    show dot r y (n + p) + r (n + p) * y (n + p) = dot r y n + (dot (fun j => r (n + j)) (fun j => y (n + j)) p + r (n + p) * y (n + p))
    rw [dot_app r y n p]
    omega
/-- two points' numbers, one behind the other -/
def appX (n : Nat) (x v : Nat → Int × Int) : Nat → Int × Int := fun j => if j < n then x j else v (j - n)
theorem ptF_app (n p : Nat) (x v : Nat → Int × Int) : ((List.range n).map fun k => prD (x k)) ++ ((List.range p).map fun k => prD (v k)) = (List.range (n + p)).map fun k => prD (appX n x v k) := by
  refine List.ext_getElem? fun i => ?_
  by_cases h1 : i < n
  · rw [List.getElem?_append_left (by rw [rng_len]; exact h1), rng_get h1, rng_get (by omega)]
    unfold appX
    rw [if_pos h1]
  · rw [List.getElem?_append_right (by rw [rng_len]; omega), rng_len]
    by_cases h2 : i < n + p
    · rw [rng_get (show i - n < p by omega), rng_get h2]
      unfold appX
      rw [if_neg h1]
    · rw [List.getElem?_eq_none (by rw [rng_len]; omega), List.getElem?_eq_none (by rw [rng_len]; omega)]
theorem okX_app {B n p : Nat} {x v : Nat → Int × Int} (h1 : okX B n x) (h2 : okX B p v) : okX B (n + p) (appX n x v) := fun k hk => by
  unfold appX
  by_cases h : k < n
  · rw [if_pos h]; exact h1 k h
  · rw [if_neg h]; exact h2 (k - n) (by omega)
theorem okX_mono {B C n : Nat} {x : Nat → Int × Int} (h : okX B n x) (hb : B ≤ C) : okX C n x := fun k hk => ⟨(h k hk).1, bnd_mono (h k hk).2.1 hb, bnd_mono (h k hk).2.2 hb⟩
def frX (p : Int × Int) : Int × Int := (p.1.fdiv (shr p.1 p.2), p.2.fdiv (shr p.1 p.2))
theorem frP_X (p : Int × Int) : frP p = prD (frX p) := rfl
theorem frX_ok {p : Int × Int} (h : p.2 ≠ 0) : 0 < (frX p).2 ∧ (frX p).1 * p.2 = p.1 * (frX p).2 ∧ (Int.gcd (frX p).1 (frX p).2 : Int) = 1 ∧ (frX p).1.natAbs ≤ p.1.natAbs ∧ (frX p).2.natAbs ≤ p.2.natAbs := by
  obtain ⟨u, v, e, h1, h2, h3, h4, h5⟩ := fr_ex p.1 h
  unfold fr pr at e
  injection e with e
  injection e with e1 e2
  injection e2 with e2 e3
  injection e1 with e1
  injection e2 with e2
  unfold frX
  dsimp only
  rw [e1, e2]
  exact ⟨h1, h2, by rw [h3]; rfl, h4, h5⟩
theorem dot_bnd {A B : Nat} {r y : Nat → Int} : ∀ {n : Nat}, (∀ j, j < n → bnd A (r j)) → (∀ j, j < n → bnd B (y j)) → bnd (A + B + n) (dot r y n)
  | 0, _, _ => bnd_zero
  | n + 1, h1, h2 => by
    unfold dot
    exact bnd_add (k := A + B + n) (dot_bnd (fun j hj => h1 j (by omega)) fun j hj => h2 j (by omega)) (bnd_mono (j := A + B) (bnd_mul (h1 n (by omega)) (h2 n (by omega))) (by omega))
theorem topN_bnd {B n : Nat} {x : Nat → Int × Int} (h : okX B n x) {k : Nat} (hk : k < n) : bnd (B + (B * n + 1)) (topN x n k) := by
  unfold topN
  refine bnd_mul (h k hk).2.1 (bnd_le (fdiv_le ?_) (pdN_bnd fun k hk => (h k hk).2.2))
  have := (h k hk).1
  omega
end Dl

/-! The D-layer, part 40: a dict of one's own, its keys tuples of ints. -/
namespace Dl
open PySem PySem.Spec
open PyProof.Rows L2
/-! ### pairs -/
abbrev KD1 := List Int × D
def keyI (k : List Int) : List Key := k.map Sum.inl
theorem keyI_kV (k : List Int) : (keyI k).map kV = k.map V.int := by
  unfold keyI
  rw [List.map_map]
  rfl
theorem keyI_inj {a b : List Int} (h : keyI a = keyI b) : a = b := by
  unfold keyI at h
  exact List.map_inj_right (fun x y e => Sum.inl.inj e) |>.mp h
def oK (kvs : List KD1) : List (List Key × D) := kvs.map fun p => (keyI p.1, p.2)
def valD : List KD1 → List Int → Option D
  | [], _ => none
  | p :: r, k => if p.1 = k then some p.2 else valD r k
def putD (kvs : List KD1) (k : List Int) (y : D) : List KD1 :=
  if (valD kvs k).isSome = true then kvs.map (fun p => if p.1 = k then (p.1, y) else p) else kvs ++ [(k, y)]
theorem rept_val {K : PySem.W.Frag} {H : Hp} (k : List Int) : ∀ {kvs : List KD1} {vs : List (List Key × V)}, RepT K H (oK kvs) vs → match valD kvs k with
    | none => valV vs (keyI k) = none
    | some d => ∃ v, valV vs (keyI k) = some v ∧ Rep K H d v
  | [], _, .nil => rfl
  | p :: r, _, .cons (v := v) h t => by
    unfold valD
    by_cases e : p.1 = k
    · rw [if_pos e]
      exact ⟨v, valV_pos (p := (keyI p.1, v)) (congrArg keyI e), h⟩
    · rw [if_neg e]
      have := rept_val k t
      rw [valV_neg (p := (keyI p.1, v)) fun z => e (keyI_inj z)]
      exact this
theorem rept_len {K : PySem.W.Frag} {H : Hp} : ∀ {kvs : List KD1} {vs : List (List Key × V)}, RepT K H (oK kvs) vs → vs.length = kvs.length
  | [], _, .nil => rfl
  | _ :: _, _, .cons _ t => congrArg (· + 1) (rept_len t)
theorem rept_map {K : PySem.W.Frag} {H : Hp} (k : List Int) {y : D} {u : V} (hy : Rep K H y u) : ∀ {kvs : List KD1} {vs : List (List Key × V)}, RepT K H (oK kvs) vs →
    RepT K H (oK (kvs.map fun p => if p.1 = k then (p.1, y) else p)) (vs.map fun p => if p.1 = keyI k then (p.1, u) else p)
  | [], _, .nil => .nil
  | p :: r, _, .cons (v := v) h t => by
    have ih := rept_map k hy t
    rw [List.map_cons, List.map_cons]
    by_cases e : p.1 = k
    · rw [if_pos e, if_pos (congrArg keyI e)]
      exact .cons hy ih
    · rw [if_neg e, if_neg fun z => e (keyI_inj z)]
      exact .cons h ih
theorem rept_snoc {K : PySem.W.Frag} {H : Hp} (k : List Int) {y : D} {u : V} (hy : Rep K H y u) : ∀ {kvs : List KD1} {vs : List (List Key × V)}, RepT K H (oK kvs) vs →
    RepT K H (oK (kvs ++ [(k, y)])) (vs ++ [(keyI k, u)])
  | [], _, .nil => .cons hy .nil
  | _ :: _, _, .cons h t => .cons h (rept_snoc k hy t)
theorem rept_put {K : PySem.W.Frag} {H : Hp} (k : List Int) {y : D} {u : V} (hy : Rep K H y u) {kvs : List KD1} {vs : List (List Key × V)} (r : RepT K H (oK kvs) vs) :
    RepT K H (oK (putD kvs k y)) (putK vs (keyI k) u) := by
  unfold putD putK
  have e : (vs.any fun kv => decide (kv.1 = keyI k)) = (valD kvs k).isSome := by
    rw [valV_any]
    have := rept_val k r
    cases h : valD kvs k with
    | none => rw [h] at this; rw [this]; rfl
    | some d => rw [h] at this; obtain ⟨v, h1, _⟩ := this; rw [h1]; rfl
  rw [e]
  by_cases q : (valD kvs k).isSome = true
  · rw [if_pos q, if_pos q]; exact rept_map k hy r
  · rw [if_neg q, if_neg q]; exact rept_snoc k hy r
theorem rept_vals {K : PySem.W.Frag} {H : Hp} : ∀ {kvs : List KD1} {vs : List (List Key × V)}, RepT K H (oK kvs) vs → Reps K H (kvs.map (·.2)) (vs.map (·.2))
  | [], _, .nil => .nil
  | _ :: _, _, .cons h t => .cons h (rept_vals t)
/-! ### the slot -/
theorem Ent.setOd {K : PySem.W.Frag} {F0 H0 : Hp} {ρ : Env'} {σ : L2.St} {F H F1 H1 : Hp} (e : Ent K F0 H0 ρ σ F H) (g : Go F H F1 H1) (i : Nat) {kvs : List (List Key × D)} {p : Addr} {vs : List (List Key × V)} (np : H p = none) (hp : H1 p = some (.dT vs)) (fp : F1 p = none) (r : RepT K F1 kvs vs) :
    Ent K F0 H0 (ρ.set i (.od kvs)) (σ.set i (some (.ref p))) F1 H1 := by
  have e1 := e.step g
  have lt : ∀ {s : Sl}, (ρ.set i (.od kvs))[i]? = some s → i < ρ.length := fun h => by
    have z := (List.getElem?_eq_some_iff.mp h).1
    rw [List.length_set] at z; exact z
  have at_i : ∀ {s : Sl}, (ρ.set i (.od kvs))[i]? = some s → s = .od kvs ∧ (σ.set i (some (.ref p)))[i]? = some (some (.ref p)) := fun h => by
    have l := lt h
    rw [List.getElem?_set_self l] at h
    exact ⟨(Option.some.inj h).symm, List.getElem?_set_self (by rw [← e.rl.len]; exact l)⟩
  have ne : ∀ {j : Nat}, i ≠ j → (ρ.set i (.od kvs))[j]? = ρ[j]? ∧ (σ.set i (some (.ref p)))[j]? = σ[j]? := fun h => ⟨List.getElem?_set_ne h, List.getElem?_set_ne h⟩
  have old : ∀ {j : Nat} {s : Sl} {q : Addr}, ρ[j]? = some s → s.own = true → σ[j]? = some (some (.ref q)) → q ≠ p := fun {j s q} h o hs z => by
    subst z
    cases s with
    | no => cases o
    | sh d => cases o
    | ow es =>
      obtain ⟨p', _, h1, h2, _⟩ := e.rl.ow j es h
      rw [h1] at hs; cases hs; rw [np] at h2; cases h2
    | oi C fs =>
      obtain ⟨p', _, _, h1, h2, _⟩ := e.rl.oi j C fs h
      rw [h1] at hs; cases hs; rw [np] at h2; cases h2
    | od kvs =>
      obtain ⟨p', _, h1, h2, _⟩ := e.rl.od j kvs h
      rw [h1] at hs; cases hs; rw [np] at h2; cases h2
  refine ⟨⟨by rw [List.length_set, List.length_set]; exact e.rl.len, e1.rl.fh, fun j d h => ?_, fun j es h => ?_, fun j C fs h => ?_, fun j kvs' h => ?_, fun j k s s' w h1 o1 h2 o2 h3 h4 => ?_⟩, e1.go, fun j s q h o hs => ?_⟩
  · by_cases hj : i = j
    · subst hj; cases (at_i h).1
    · rw [(ne hj).1] at h; rw [(ne hj).2]; exact e1.rl.sh j d h
  · by_cases hj : i = j
    · subst hj; cases (at_i h).1
    · rw [(ne hj).1] at h; rw [(ne hj).2]; exact e1.rl.ow j es h
  · by_cases hj : i = j
    · subst hj; cases (at_i h).1
    · rw [(ne hj).1] at h; rw [(ne hj).2]; exact e1.rl.oi j C fs h
  · by_cases hj : i = j
    · subst hj
      obtain ⟨q1, q2⟩ := at_i h
      cases q1
      exact ⟨p, vs, q2, hp, fp, r⟩
    · rw [(ne hj).1] at h; rw [(ne hj).2]; exact e1.rl.od j kvs' h
  · by_cases hj : i = j
    · by_cases hk : i = k
      · rw [← hj, hk]
      · subst hj
        rw [(at_i h1).2] at h3; cases h3
        rw [(ne hk).1] at h2; rw [(ne hk).2] at h4
        exact absurd rfl (old h2 o2 h4)
    · by_cases hk : i = k
      · subst hk
        rw [(at_i h2).2] at h4; cases h4
        rw [(ne hj).1] at h1; rw [(ne hj).2] at h3
        exact absurd rfl (old h1 o1 h3)
      · rw [(ne hj).1] at h1; rw [(ne hj).2] at h3; rw [(ne hk).1] at h2; rw [(ne hk).2] at h4
        exact e.rl.inj j k s s' w h1 o1 h2 o2 h3 h4
  · by_cases hj : i = j
    · subst hj
      rw [(at_i h).2] at hs; cases hs
      exact e.go.hh.free np
    · rw [(ne hj).1] at h; rw [(ne hj).2] at hs; exact e.new j s q h o hs
theorem Ent.putOd {K : PySem.W.Frag} {F0 H0 : Hp} {ρ : Env'} {σ : L2.St} {F H : Hp} (e : Ent K F0 H0 ρ σ F H) {i : Nat} {kvs kvs' : List (List Key × D)} {p : Addr} {ws : List (List Key × V)} (hi : ρ[i]? = some (.od kvs)) (hs : σ[i]? = some (some (.ref p))) (r : RepT K F kvs' ws) :
    Ent K F0 H0 (ρ.set i (.od kvs')) σ F (upd H p (.dT ws)) := by
  obtain ⟨p', vs, h1, h2, h3, h5⟩ := e.rl.od i kvs hi
  rw [hs] at h1; cases h1
  have h0 := e.new i _ p hi rfl hs
  have il := (List.getElem?_eq_some_iff.mp hi).1
  have at_i : ∀ {s : Sl}, (ρ.set i (.od kvs'))[i]? = some s → s = .od kvs' := fun h => by
    rw [List.getElem?_set_self il] at h; exact (Option.some.inj h).symm
  have ne : ∀ {j : Nat}, i ≠ j → (ρ.set i (.od kvs'))[j]? = ρ[j]? := fun h => List.getElem?_set_ne h
  have np : ∀ {j : Nat} {s : Sl} {q : Addr}, i ≠ j → ρ[j]? = some s → s.own = true → σ[j]? = some (some (.ref q)) → q ≠ p := fun {j s q} hj h o hq z => by
    subst z
    exact hj (e.rl.inj i j _ s _ hi rfl h o hs hq)
  have sm : ∀ {A : Hp}, A p = none → Same A H → Same A (upd H p (.dT ws)) := fun n s b u q => by
    rw [upd_ne (ne_of_none q n)]; exact s b u q
  refine ⟨⟨by rw [List.length_set]; exact e.rl.len, sm h3 e.rl.fh, fun j d h => ?_, fun j fs h => ?_, fun j C' fs h => ?_, fun j kv h => ?_, fun j k s s' w g1 o1 g2 o2 g3 g4 => ?_⟩, ⟨e.go.ff, sm h0 e.go.hh, sm h3 e.rl.fh, e.go.nn⟩, fun j s q h o hq => ?_⟩
  · by_cases hj : i = j
    · subst hj; cases at_i h
    · rw [ne hj] at h; exact e.rl.sh j d h
  · by_cases hj : i = j
    · subst hj; cases at_i h
    · rw [ne hj] at h
      obtain ⟨q, us, g1, g2, g3⟩ := e.rl.ow j fs h
      exact ⟨q, us, g1, by rw [upd_ne (np hj h rfl g1)]; exact g2, g3⟩
  · by_cases hj : i = j
    · subst hj; cases at_i h
    · rw [ne hj] at h
      obtain ⟨q, dx, us, g1, g2, g3⟩ := e.rl.oi j C' fs h
      exact ⟨q, dx, us, g1, by rw [upd_ne (np hj h rfl g1)]; exact g2, g3⟩
  · by_cases hj : i = j
    · subst hj
      cases at_i h
      exact ⟨p, ws, hs, upd_same, h3, r⟩
    · rw [ne hj] at h
      obtain ⟨q, us, g1, g2, g3⟩ := e.rl.od j kv h
      exact ⟨q, us, g1, by rw [upd_ne (np hj h rfl g1)]; exact g2, g3⟩
  · have low : ∀ {j : Nat} {s : Sl}, (ρ.set i (.od kvs'))[j]? = some s → s.own = true → ∃ s', ρ[j]? = some s' ∧ s'.own = true := fun {j s} h o => by
      by_cases hj : i = j
      · subst hj; exact ⟨_, hi, rfl⟩
      · rw [ne hj] at h; exact ⟨s, h, o⟩
    obtain ⟨s1, q1, q2⟩ := low g1 o1
    obtain ⟨s2, q3, q4⟩ := low g2 o2
    exact e.rl.inj j k s1 s2 w q1 q2 q3 q4 g3 g4
  · by_cases hj : i = j
    · subst hj; rw [hs] at hq; cases hq; exact h0
    · rw [ne hj] at h; exact e.new j s q h o hq
/-- where such a dict is wanted -/
def odAt (ρ : Env') (i : Nat) (Q : List KD1 → Prop) : Prop := match ρ[i]? with
  | some (.od ks) => ∃ kvs, ks = oK kvs ∧ Q kvs
  | _ => False
theorem odAt_inv {ρ : Env'} {i : Nat} {Q : List KD1 → Prop} (h : odAt ρ i Q) : ∃ kvs, ρ[i]? = some (.od (oK kvs)) ∧ Q kvs := by
  unfold odAt at h
  split at h
  · rename_i ks e
    obtain ⟨kvs, rfl, q⟩ := h
    exact ⟨_, e, q⟩
  · exact h.elim
/-- where a key is wanted -/
def asKy (Q : List Int → Prop) : EQ := fun d => ∃ ns : List Int, d = .tup (ns.map .int) ∧ Q ns
section
variable {X : Cx} {W : WX} {e a b c value : Expr} {t ta te : TD} {pos pos' : Pos}
/-- x = {} -/
def dNewD (i : Nat) : DS := fun d ρ => d.nx (ρ.set i (.od (oK [])))
theorem rs_newD (i : Nat) {x : Str} {pd : Pos} (hN : X.N.Nodup) (hi : X.N[i]? = some x := by rfl) (hx : Loc X.env.scope x := by first | exact Or.inl rfl | exact Or.inr rfl) (hs : swapsWith (.Dict [] [] pd) (some (.Name x pos')) pos.line X.env = pure false := by rfl)
    (hf : X.fn x = true ∨ X.env.scope.names.lookup x = some .local := by first | exact .inl rfl | exact .inr rfl) :
    RS X W (.Assign [.Name x pos'] (.Dict [] [] pd) pos) (dNewD i) := by
  refine ⟨_, ps_set hN hi hx pe_dnewT hs hf, fun F0 H0 ρ σ F H D d en c q => ?_⟩
  intro p np
  have fp := en.rl.fh.free np
  have g : Go F H F (upd H p (.dT [])) := ⟨Same.refl _, same_upd np, fun b u z => by rw [upd_ne (ne_of_none z fp)]; exact en.rl.fh b u z, fun _ h _ => h⟩
  exact c.nx _ _ F _ (en.setOd g i np upd_same fp .nil) q
/-- x[k] = e -/
def dPutD (i : Nat) (te ta : TD) : DS := fun d ρ => te ρ (fun y => odAt ρ i fun kvs => ta ρ (asKy fun k => kvs.length < 16777216 ∧ d.nx (ρ.set i (.od (oK (putD kvs k y))))) (d.ex ρ)) (d.ex ρ)
theorem rs_putD (i : Nat) {x : Str} {p : Pos} (hu : X.A.units + 1 < cLine) (he : RE X W value te) (ha : RE X W a ta) (hN : X.N[i]? = some x := by rfl) (hv : Vis X.env.scope x := by first | exact Or.inl rfl | exact Or.inr (Or.inl rfl) | exact Or.inr (Or.inr rfl))
    (hd : (x == ("__debug__" : Str)) = false := by decide) (hcd : (x == ("__classdict__" : Str)) = false := by decide) (hs : swapsWith value (some (.Subscript (.Name x p) a pos')) pos.line X.env = pure false := by rfl) :
    RS X W (.Assign [.Subscript (.Name x p) a pos'] value pos) (dPutD i te ta) := by
  obtain ⟨t1, e1, e2⟩ := he.run
  obtain ⟨t2, a1, a2⟩ := ha.run
  refine ⟨_, ps_dput hu (pe_var hN hv hd hcd) a1 e1 hs, fun F0 H0 ρ σ F H D d en c q => e2 ρ σ F H _ _ _ en.rl (c.ex ρ σ F H en) (fun y v F1 H1 g r q1 => ?_) q⟩
  have en1 := en.step g
  obtain ⟨kvs, ho, q1⟩ := odAt_inv q1
  obtain ⟨p, vs, h1, -⟩ := en1.rl.od i _ ho
  refine ⟨_, h1, a2 ρ σ F1 H1 _ _ _ en1.rl (c.ex ρ σ F1 H1 en1) (fun z vz F2 H2 g2 r2 q2 => ?_) q1⟩
  obtain ⟨ns, rfl, q4, q5⟩ := q2
  have en2 := en1.step g2
  obtain ⟨p', vs, h1', h2, h3, h5⟩ := en2.rl.od i _ ho
  rw [h1] at h1'
  cases h1'
  cases r2 with
  | tup s l r2 =>
    have ev := Reps.ints r2
    subst ev
    refine ⟨p, _, rfl, DPut.t (k := keyI ns) h2 (by rw [keyI_kV]; exact en2.rl.fh _ _ s) (by rw [rept_len h5, sizeLine_eq]; exact q4), ?_⟩
    exact c.nx _ _ F2 _ (en2.putOd ho h1 (rept_put ns (r.mono g2.ff) h5)) q5
/-- k not in x -/
def dNotInD (i : Nat) (ta : TD) : TDb := fun ρ Q E => ta ρ (asKy fun k => odAt ρ i fun kvs => Q (!(valD kvs k).isSome)) E
theorem rt_notinD (i : Nat) {x : Str} {p : Pos} (hu : X.A.units + 1 < cLine) (ha : RE X W a ta) (hN : X.N[i]? = some x := by rfl) (hv : Vis X.env.scope x := by first | exact Or.inl rfl | exact Or.inr (Or.inl rfl) | exact Or.inr (Or.inr rfl))
    (hd : (x == ("__debug__" : Str)) = false := by decide) (hcd : (x == ("__classdict__" : Str)) = false := by decide) (hm : behindInMarks .NotIn (.Name x p) = false := by rfl) :
    RT X W (.Compare a [.NotIn] [.Name x p] pos) (dNotInD i ta) := by
  obtain ⟨t2, a1, a2⟩ := ha.run
  refine ⟨_, pt_cmp (pc_dnotin hu a1 (pe_var hN hv hd hcd)) hm, fun ρ σ F H Qd E Q rl xp kk q => a2 ρ σ F H _ E _ rl xp (fun z vz F2 H2 g2 r2 q2 => ?_) q⟩
  obtain ⟨ns, rfl, q3⟩ := q2
  obtain ⟨kvs, ho, q4⟩ := odAt_inv q3
  obtain ⟨p, vs, h1, h2, h3, h5⟩ := (rl.go g2).od i _ ho
  cases r2 with
  | tup s l r2 =>
    have ev := Reps.ints r2
    subst ev
    have e : (valV vs (keyI ns)).isSome = (valD kvs ns).isSome := by
      have := rept_val ns h5
      cases h : valD kvs ns with
      | none => rw [h] at this; rw [this]; rfl
      | some d => rw [h] at this; obtain ⟨v, e1, _⟩ := this; rw [e1]; rfl
    refine ⟨_, h1, p, _, rfl, DGet.t (k := keyI ns) h2 (by rw [keyI_kV]; exact g2.fh _ _ s), _, rfl, ?_⟩
    rw [e]
    exact kk _ F2 H2 g2 q4
/-- x[k] -/
def dGetD (i : Nat) (ta : TD) : TD := fun ρ Q E => odAt ρ i fun kvs => ta ρ (asKy fun k => asO Q (valD kvs k)) E
theorem re_getD (i : Nat) {x : Str} {p : Pos} (hu : X.A.units + 1 < cLine) (ha : RE X W a ta) (hN : X.N[i]? = some x := by rfl) (hv : Vis X.env.scope x := by first | exact Or.inl rfl | exact Or.inr (Or.inl rfl) | exact Or.inr (Or.inr rfl))
    (hd : (x == ("__debug__" : Str)) = false := by decide) (hcd : (x == ("__classdict__" : Str)) = false := by decide) (hs : NoSl a := by exact fun _ _ => rfl) :
    RE X W (.Subscript (.Name x p) a pos) (dGetD i ta) := by
  obtain ⟨t2, a1, a2⟩ := ha.run
  refine ⟨_, pe_dget hu (pe_var hN hv hd hcd) a1 hs, fun ρ σ F H Qd E Q rl xp kk q => ?_⟩
  obtain ⟨kvs, ho, q1⟩ := odAt_inv q
  obtain ⟨p, vs, h1, h2, h3, h5⟩ := rl.od i _ ho
  refine ⟨_, h1, a2 ρ σ F H _ E _ rl xp (fun z vz F2 H2 g2 r2 q2 => ?_) q1⟩
  obtain ⟨ns, rfl, q3⟩ := q2
  obtain ⟨d, hd, qd⟩ := asO_inv q3
  obtain ⟨p', vs', h1', h2', h3', h5'⟩ := (rl.go g2).od i _ ho
  rw [h1] at h1'
  cases h1'
  cases r2 with
  | tup s l r2 =>
    have ev := Reps.ints r2
    subst ev
    have := rept_val ns h5'
    rw [hd] at this
    obtain ⟨v, e1, e2⟩ := this
    refine ⟨p, v, rfl, ?_, kk d v F2 H2 g2 e2 qd⟩
    rw [← e1]
    exact DGet.t (k := keyI ns) h2' (by rw [keyI_kV]; exact g2.fh _ _ s)
/-! ### list(x.values()) -/
def viewO (p d : Addr) : HO := .ext fun h => h.IsValuesView p d
theorem mt_valuesT : MtR X "dict.values" (fun x xs H Q => ∃ (a : Addr) (kvs : List (List Key × V)), x = .ref a ∧ xs = [] ∧ H a = some (.dT kvs) ∧ ∀ p, H p = none → Q (.ref p) (upd H p (viewO p a))) := by
  intro pins s σ H x xs v us Q I rx rxs h
  obtain ⟨a, kvs, rfl, rfl, ha, q⟩ := h
  cases rx
  cases rxs
  obtain ⟨z, hd, xs', rel, o, es, ep, ho, hx, hdat, _⟩ := dt_of I.hok ha
  have T : s.TypeIs (.ref a) "dict" := ⟨o, ho, hx.1⟩
  refine call_meetsIn PySem.F.slot_dict_values T PySem.F.entry_dict_values (PySem.F.args_dict_values_1 _) (meets_dict_values_raw a hd) ⟨⟨es, ep, o, ho, hx, hdat⟩, ?_⟩
  have hf : H s.heap.objs.size = none := I.hok.fresh (Nat.le_refl _)
  have e : (s.heap.push { cls := .type "dict_values", data := .fields #[.ref a] }).get? s.heap.objs.size = some { cls := .type "dict_values", data := .fields #[.ref a] } := Heap.get?_push_size _ rfl
  exact ⟨.ref s.heap.objs.size, upd H s.heap.objs.size (viewO s.heap.objs.size a), I.laid (t' := s.toks) (fun b u e => Heap.get?_push_of_some _ e) (Nat.le_refl _) ⟨⟨_, e, rfl, rfl⟩, ⟨_, e⟩, fun h1 h2 x k => let ⟨o, ho, r⟩ := x; ⟨o, k o ho, r⟩⟩, rfl, q _ hf⟩
theorem call_list_view (hc : X.calm = true) : CallR X (.type "list") (fun xs H Q => ∃ p d kvs, xs = [V.ref p] ∧ H p = some (viewO p d) ∧ H d = some (.dT kvs) ∧ ∀ l, H l = none → Q (.ref l) (upd H l (.lst (kvs.map (·.2))))) := by
  intro pins s σ H xs us Q I r h
  obtain ⟨p, d, kvs, rfl, hp, hd, q⟩ := h
  obtain ⟨u, rfl, rx⟩ := r.one
  cases rx
  obtain ⟨z, hs, ks, pr, o, es, ep, ho, hx, hdt, he, hn⟩ := (show ObjOk X.prog X.w H s.heap d (.dT kvs) from I.hok d _ hd)
  obtain ⟨hv, -⟩ := (show ObjOk X.prog X.w H s.heap p (viewO p d) from I.hok p _ hp)
  have l1 : es.size = ks.length := size_of_entries he
  have l2 : kvs.length = ks.length := Paired.length pr
  have KS : PySem.W.KdlSrc X.prog X.w "dict_values" p d es.size (fun i v => ∃ hi : i < es.size, v = es[i].val) (fun h => h.IsValuesView p d ∧ h.DictRaw d es ep) := PySem.KdlSrc.rawValues
  refine PySem.W.kdl_call KS (I.ok.hd hc) ⟨hv, o, ho, hx, hdt⟩ (by omega) fun h' tk acc' c' kp e it => ?_
  have ea : acc'.toList = ks.map fun x => x.2.2 := by
    have hl : acc'.toList.length = ks.length := by rw [Array.length_toList, it.1]; exact l1
    apply List.ext_getElem?
    intro j
    rw [List.getElem?_map]
    cases hj : acc'.toList[j]? with
    | none =>
      have h1 := List.getElem?_eq_none_iff.mp hj
      rw [List.getElem?_eq_none (by omega)]
      all_goals rfl
    | some v =>
      obtain ⟨hi, hv⟩ := it.2 j v (by rw [← Array.getElem?_toList]; exact hj)
      have qe := entry_at he j
      rw [Array.getElem?_eq_getElem hi] at qe
      cases hb : ks[j]? with
      | none =>
        rw [hb] at qe
        exact nomatch (show some es[j] = none from qe)
      | some b =>
        rw [hb] at qe
        have e2 : es[j] = entryOfKey (tupleKind (mixKind X.prog X.w)) b := Option.some.inj qe
        rw [hv, e2]
        all_goals rfl
  have rv : Vals (kvs.map (·.2)) acc'.toList := by
    rw [ea]
    clear ea it e l1 l2 he hn z q hd
    induction pr with
    | nil => exact .nil
    | cons h t ih => exact .cons h.2.2 ih
  have hz : (kvs.map (·.2)).length ≤ sizeLine := by rw [List.length_map]; exact z
  refine ⟨.ref s.heap.objs.size, _, I.laid (t' := tk) (o := .lst (kvs.map (·.2))) kp (Nat.le_refl _) ?_, rfl, q _ (I.hok.fresh (Nat.le_refl _))⟩
  exact ⟨hz, acc'.toList, c', rv, by rw [Array.toArray_toList]; exact e⟩
def dValsN (i : Nat) : TDs := fun ρ Q _ => odAt ρ i fun kvs => kvs.length ≤ 16777216 ∧ Q (kvs.map (·.2))
theorem rn_vals (i : Nat) {x z : Str} {p p2 apos cpos : Pos} (hm : X.mg z = none) (hc : X.calm = true := by rfl) (hN : X.N[i]? = some x := by rfl) (hv : Vis X.env.scope x := by first | exact Or.inl rfl | exact Or.inr (Or.inl rfl) | exact Or.inr (Or.inr rfl))
    (hd : (x == ("__debug__" : Str)) = false := by decide) (hcd : (x == ("__classdict__" : Str)) = false := by decide) (hg : Gl X z := by rfl) (hb : bootBuiltins z = some (.type "list") := by decide +kernel)
    (hn : z ≠ "__name__" := by decide) (hdb : (z == ("__debug__" : Str)) = false := by decide)
    (hbase : attributeBase (.Name x p) "values" X.env (eval (.Name x p) X.env) = eval (.Name x p) X.env := by rfl) (hline : (apos.endLine == cpos.line) = true := by rfl)
    (he : starEach [Expr.Call (.Attribute (.Name x p) "values" apos) [] [] cpos] X.env = (false, eval (.Call (.Attribute (.Name x p) "values" apos) [] [] cpos) X.env) :: starEach [] X.env := by rfl) (hpl : (backTo pos (starEach [] X.env)).any (·.1) = false := by rfl) :
    RN X W (.Call (.Name z p2) [.Call (.Attribute (.Name x p) "values" apos) [] [] cpos] [] pos) (dValsN i) := by
  refine ⟨_, pe_callTy (call_list_view hc) hg hm hb (pa_cons (pe_bm0 PySem.F.plainAttrs_dict PySem.F.slot_dict_values PySem.F.type_dict_values mt_valuesT (pe_var hN hv hd hcd) hbase hline) pa_nil he) hn hdb he hpl, fun ρ σ F H Qd E Q rl xp kk q => ?_⟩
  obtain ⟨kvs, ho, q1⟩ := odAt_inv q
  obtain ⟨p, vs, h1, h2, h3, h5⟩ := rl.od i _ ho
  refine ⟨_, h1, .inr (.inr (.inl ⟨rfl, .inr ⟨_, h2⟩⟩)), p, _, rfl, rfl, h2, fun w nw => ?_⟩
  have hw : (upd H w (viewO w p)) p = some (.dT vs) := by rw [upd_ne (ne_of_none h2 nw)]; exact h2
  refine ⟨w, p, vs, rfl, upd_same, hw, fun l nl => ?_⟩
  have gw : Go F H F (upd H w (viewO w p)) := ⟨Same.refl _, same_upd nw, fun b u z => by rw [upd_ne (ne_of_none z (rl.fh.free nw))]; exact rl.fh b u z, fun _ h _ => h⟩
  have fl : F l = none := gw.fh.free nl
  have nl' : H l = none := (same_upd (o := viewO w p) nw).free nl
  refine kk _ l _ F _ (gw.trans ⟨Same.refl _, same_upd nl, fun b u z => by rw [upd_ne (ne_of_none z fl)]; exact gw.fh b u z, fun _ h _ => h⟩) nl' upd_same fl ?_ (rept_vals h5) q1.2
  rw [List.length_map, rept_len h5, sizeLine_eq]
  exact q1.1
end
end Dl

/-! The D-layer, part 41: rows by lists: what divides all, lowest form, the tidied room (mathematics). -/
namespace Dl
open PySem PySem.Spec
open PyProof.Rows L2
abbrev Rw := List Int × Int
def fL (l : List Int) : Nat → Int := fun j => l.getD j 0
def gcdI (l : List Int) : Int := gcdL (fL l) l.length
def lowI (l : List Int) : List Int := if gcdI l = 0 then l else l.map (·.fdiv (gcdI l))
theorem rowW_list (l : List Int) : rowW l.length (fL l) = .tup (l.map .int) := congrArg D.tup (tab_list l).symm
theorem rowW_low (l : List Int) : rowW l.length (lowR l.length (fL l)) = .tup ((lowI l).map .int) := by
  unfold lowI
  by_cases h : gcdI l = 0
  · rw [if_pos h, ← rowW_list]
    congr 1
    funext j
    unfold lowR
    exact if_pos h
  · rw [if_neg h]
    unfold rowW
    congr 1
    refine List.ext_getElem? fun i => ?_
    by_cases hi : i < l.length
    · rw [tab_get hi, List.getElem?_map, List.getElem?_map, List.getElem?_eq_getElem hi]
      unfold lowR
      rw [if_neg (show ¬ gcdL (fL l) l.length = 0 from h)]
      unfold fL
      rw [List.getD_eq_getElem?_getD, List.getElem?_eq_getElem hi]
      rfl
    · rw [List.getElem?_eq_none (by rw [tab_len]; omega), List.getElem?_eq_none (by rw [List.length_map, List.length_map]; omega)]
theorem low_len (l : List Int) : (lowI l).length = l.length := by
  unfold lowI; split
  · rfl
  · rw [List.length_map]
theorem gcdI_nn (l : List Int) : 0 ≤ gcdI l := gcdL_nn _ _
theorem gcdI_dvd {l : List Int} {x : Int} (h : x ∈ l) : gcdI l ∣ x := by
  obtain ⟨i, hi, rfl⟩ := List.mem_iff_getElem.mp h
  have := gcdL_dvd (fL l) l.length i hi
  unfold fL at this
  rw [List.getD_eq_getElem?_getD, List.getElem?_eq_getElem hi] at this
  exact this
theorem gcdI_zero {l : List Int} (h : gcdI l = 0) {x : Int} (hx : x ∈ l) : x = 0 := by
  have := gcdI_dvd hx
  rw [h] at this
  exact Int.zero_dvd.mp this
theorem gcdL_mul {c : Int} (hc : 0 ≤ c) (r : Nat → Int) : ∀ m, gcdL (fun j => c * r j) m = c * gcdL r m
  | 0 => by unfold gcdL; rw [Int.mul_zero]
  | m + 1 => by
    unfold gcdL
    rw [gcdL_mul hc r m, Int.gcd_mul_left, Int.natCast_mul]
    congr 1
    omega
theorem fL_map (c : Int) (l : List Int) : fL (l.map (c * ·)) = fun j => c * fL l j := by
  funext j
  unfold fL
  rw [List.getD_eq_getElem?_getD, List.getD_eq_getElem?_getD, List.getElem?_map]
  cases l[j]? with
  | none => exact (Int.mul_zero c).symm
  | some x => rfl
theorem gcdI_mul {c : Int} (hc : 0 ≤ c) (l : List Int) : gcdI (l.map (c * ·)) = c * gcdI l := by
  unfold gcdI
  rw [List.length_map, fL_map, gcdL_mul hc]
theorem gcdI_zeros {l : List Int} (h : ∀ x ∈ l, x = 0) : gcdI l = 0 := by
  have e : l = l.map (0 * ·) := by
    conv => lhs; rw [← List.map_id l]
    exact List.map_congr_left fun x hx => by rw [h x hx]; rfl
  rw [e, gcdI_mul (Int.le_refl 0), Int.zero_mul]
theorem div_back {g : Int} (hg : g ≠ 0) {l : List Int} (h : ∀ x ∈ l, g ∣ x) : (l.map (·.fdiv g)).map (g * ·) = l := by
  rw [List.map_map]
  conv => rhs; rw [← List.map_id l]
  exact List.map_congr_left fun x hx => by
    obtain ⟨c, rfl⟩ := h x hx
    show g * (g * c).fdiv g = g * c
    rw [Int.mul_fdiv_cancel_left _ hg]
theorem lowI_back (l : List Int) (h : gcdI l ≠ 0) : (lowI l).map (gcdI l * ·) = l := by
  unfold lowI
  rw [if_neg h]
  exact div_back h fun x hx => gcdI_dvd hx
theorem low_gcd {l : List Int} (h : gcdI l ≠ 0) : gcdI (lowI l) = 1 := by
  have e := gcdI_mul (gcdI_nn l) (lowI l)
  rw [lowI_back l h] at e
  have : gcdI l * gcdI (lowI l) = gcdI l * 1 := by rw [← e, Int.mul_one]
  exact Int.eq_of_mul_eq_mul_left h this
theorem lowI_scale {c : Int} (hc : 0 < c) (l : List Int) (h : gcdI l ≠ 0) : lowI (l.map (c * ·)) = lowI l := by
  have e := gcdI_mul (Int.le_of_lt hc) l
  unfold lowI
  rw [if_neg h, e, if_neg (fun z => by rcases Int.mul_eq_zero.mp z with z | z <;> omega), List.map_map]
  exact List.map_congr_left fun x _ => Int.mul_fdiv_mul_of_pos _ _ hc
theorem low_one {l : List Int} (h : gcdI l = 1) : lowI l = l := by
  unfold lowI
  rw [h, if_neg (by decide)]
  conv => rhs; rw [← List.map_id l]
  exact List.map_congr_left fun x _ => Int.fdiv_one x
theorem low_low (l : List Int) : lowI (lowI l) = lowI l := by
  by_cases h : gcdI l = 0
  · have e : lowI l = l := by unfold lowI; rw [if_pos h]
    rw [e, e]
  · exact low_one (low_gcd h)
theorem gcdI_low0 (l : List Int) : gcdI (lowI l) = 0 ↔ gcdI l = 0 := by
  constructor
  · intro h
    exact Classical.byContradiction fun z => by rw [low_gcd z] at h; cases h
  · intro h
    unfold lowI
    rw [if_pos h]
    exact h
/-! ### a row's lowest form -/
def allR (r : Rw) : List Int := r.1 ++ [r.2]
def lowRow (r : Rw) : Rw := if gcdI (allR r) = 0 then r else (r.1.map (·.fdiv (gcdI (allR r))), r.2.fdiv (gcdI (allR r)))
theorem all_low (r : Rw) : allR (lowRow r) = lowI (allR r) := by
  unfold lowRow lowI
  by_cases h : gcdI (allR r) = 0
  · rw [if_pos h, if_pos h]
  · rw [if_neg h, if_neg h]
    unfold allR
    rw [List.map_append]
    rfl
theorem rowT_low (r : Rw) : D.tup ((lowI (r.1 ++ [r.2])).map .int) = rowT (lowRow r) := by
  show _ = D.tup ((allR (lowRow r)).map .int)
  rw [all_low]
  rfl
theorem all_gcd {r : Rw} (h : gcdI r.1 ≠ 0) : gcdI (allR r) ≠ 0 := fun z => h (gcdI_zeros fun x hx => gcdI_zero z (List.mem_append_left _ hx))
/-- a row is a number times its lowest form -/
theorem lowRow_eq (r : Rw) : ∃ h : Int, 0 < h ∧ r.1 = (lowRow r).1.map (h * ·) ∧ r.2 = h * (lowRow r).2 := by
  unfold lowRow
  by_cases h : gcdI (allR r) = 0
  · rw [if_pos h]
    refine ⟨1, by decide, ?_, by rw [Int.one_mul]⟩
    conv => lhs; rw [← List.map_id r.1]
    exact List.map_congr_left fun x _ => (Int.one_mul x).symm
  · rw [if_neg h]
    have hn := gcdI_nn (allR r)
    refine ⟨gcdI (allR r), by omega, (div_back h fun x hx => gcdI_dvd (List.mem_append_left _ hx)).symm, ?_⟩
    obtain ⟨c, hc⟩ : gcdI (allR r) ∣ r.2 := gcdI_dvd (List.mem_append_right _ List.mem_cons_self)
    show r.2 = _ * r.2.fdiv _
    have e : r.2.fdiv (gcdI (allR r)) = c := by
      conv => lhs; rw [hc]
      exact Int.mul_fdiv_cancel_left _ h
    rw [e]
    exact hc
theorem lowRow_low {r : Rw} (h : gcdI r.1 ≠ 0) : lowRow (lowRow r) = lowRow r := by
  have e : gcdI (allR (lowRow r)) = 1 := by rw [all_low]; exact low_gcd (all_gcd h)
  have : ∀ q : Rw, gcdI (allR q) = 1 → lowRow q = q := fun q hq => by
    unfold lowRow
    rw [if_neg (by rw [hq]; decide), hq]
    refine Prod.ext ?_ (Int.fdiv_one _)
    show q.1.map _ = q.1
    conv => rhs; rw [← List.map_id q.1]
    exact List.map_congr_left fun x _ => Int.fdiv_one x
  exact this _ e
theorem lowRow_way {r : Rw} (h : gcdI r.1 ≠ 0) : lowI (lowRow r).1 = lowI r.1 ∧ gcdI (lowRow r).1 ≠ 0 := by
  obtain ⟨c, c0, e1, e2⟩ := lowRow_eq r
  have hg : gcdI (lowRow r).1 ≠ 0 := fun z => h (by rw [e1, gcdI_mul (Int.le_of_lt c0), z, Int.mul_zero])
  refine ⟨?_, hg⟩
  conv => rhs; rw [e1]
  exact (lowI_scale c0 _ hg).symm
/-- whether the first row lets less by -/
def narI (r o : Rw) : Bool := decide (r.2 * gcdI o.1 < o.2 * gcdI r.1)
theorem nar_low (r o : Rw) : narI r (lowRow o) = narI r o := by
  obtain ⟨h, h0, e1, e2⟩ := lowRow_eq o
  unfold narI
  have g1 : gcdI o.1 = h * gcdI (lowRow o).1 := by rw [← gcdI_mul (Int.le_of_lt h0), ← e1]
  rw [decide_eq_decide, g1]
  conv => rhs; rw [e2]
  rw [show r.2 * (h * gcdI (lowRow o).1) = h * (r.2 * gcdI (lowRow o).1) from by grind, show h * (lowRow o).2 * gcdI r.1 = h * ((lowRow o).2 * gcdI r.1) from by grind]
  exact (Int.mul_lt_mul_left h0).symm
/-! ### the tidied room -/
abbrev TS := List (List Int × Rw) × List Rw
def valR : List (List Int × Rw) → List Int → Option Rw
  | [], _ => none
  | p :: r, k => if p.1 = k then some p.2 else valR r k
def putR (kvs : List (List Int × Rw)) (k : List Int) (y : Rw) : List (List Int × Rw) :=
  if (valR kvs k).isSome = true then kvs.map (fun p => if p.1 = k then (p.1, y) else p) else kvs ++ [(k, y)]
def tstep (st : TS) (r : Rw) : TS :=
  if gcdI r.1 = 0 then (if r.2 < 0 then (st.1, [(r.1, -1)]) else st)
  else match valR st.1 (lowI r.1) with
    | none => (st.1 ++ [(lowI r.1, r)], st.2)
    | some o => if narI r o = true then (putR st.1 (lowI r.1) r, st.2) else st
def tid (rl : List Rw) : TS := rl.foldl tstep ([], [])
def tidR (rl : List Rw) : List Rw := (tid rl).1.map (fun p => lowRow p.2) ++ (tid rl).2
theorem valR_some {kvs : List (List Int × Rw)} {k : List Int} {o : Rw} (h : valR kvs k = some o) : (k, o) ∈ kvs := by
  induction kvs with
  | nil => cases h
  | cons p r ih =>
    unfold valR at h
    by_cases e : p.1 = k
    · rw [if_pos e] at h
      cases h
      subst e
      exact List.mem_cons_self
    · rw [if_neg e] at h
      exact List.mem_cons_of_mem _ (ih h)
theorem valR_none {kvs : List (List Int × Rw)} {k : List Int} (h : valR kvs k = none) : ∀ p ∈ kvs, p.1 ≠ k := by
  induction kvs with
  | nil => intro p hp; cases hp
  | cons q r ih =>
    unfold valR at h
    by_cases e : q.1 = k
    · rw [if_pos e] at h; cases h
    · rw [if_neg e] at h
      intro p hp
      rcases List.mem_cons.mp hp with rfl | hp
      · exact e
      · exact ih h p hp
theorem valR_of {kvs : List (List Int × Rw)} {k : List Int} {o : Rw} (hn : (kvs.map (·.1)).Nodup) (h : (k, o) ∈ kvs) : valR kvs k = some o := by
  induction kvs with
  | nil => cases h
  | cons p r ih =>
    rw [List.map_cons, List.nodup_cons] at hn
    unfold valR
    rcases List.mem_cons.mp h with e | h
    · subst e; rw [if_pos rfl]
    · rw [if_neg (fun e => hn.1 (List.mem_map.mpr ⟨_, h, e.symm⟩))]
      exact ih hn.2 h
theorem putR_keys {kvs : List (List Int × Rw)} {k : List Int} {o y : Rw} (h : valR kvs k = some o) : (putR kvs k y).map (·.1) = kvs.map (·.1) := by
  unfold putR
  rw [h, if_pos (show (some o).isSome = true from rfl), List.map_map]
  exact List.map_congr_left fun p _ => by
    show (if p.1 = k then (p.1, y) else p).1 = p.1
    split <;> rfl
/-- what the tidied room keeps -/
structure TOk (st : TS) (rl : List Rw) : Prop where
  nd : (st.1.map (·.1)).Nodup
  of : ∀ p ∈ st.1, p.1 = lowI p.2.1 ∧ gcdI p.2.1 ≠ 0 ∧ p.2 ∈ rl
  sh : st.2 = [] ∨ ∃ r ∈ rl, gcdI r.1 = 0 ∧ r.2 < 0 ∧ st.2 = [(r.1, -1)]
  has : ∀ r ∈ rl, gcdI r.1 ≠ 0 → ∃ o, (lowI r.1, o) ∈ st.1 ∧ o.2 * gcdI r.1 ≤ r.2 * gcdI o.1
  shut : ∀ r ∈ rl, gcdI r.1 = 0 → r.2 < 0 → st.2 ≠ []
theorem narI_t {r o : Rw} (h : narI r o = true) : r.2 * gcdI o.1 < o.2 * gcdI r.1 := of_decide_eq_true h
theorem narI_f {r o : Rw} (h : narI r o = false) : o.2 * gcdI r.1 ≤ r.2 * gcdI o.1 := by have := of_decide_eq_false h; omega
theorem TOk.step {st : TS} {rl : List Rw} (t : TOk st rl) (r : Rw) : TOk (tstep st r) (rl ++ [r]) := by
  have inl : ∀ {x : Rw}, x ∈ rl → x ∈ rl ++ [r] := fun h => List.mem_append_left _ h
  have inr : r ∈ rl ++ [r] := List.mem_append_right _ List.mem_cons_self
  have cs : ∀ {x : Rw}, x ∈ rl ++ [r] → x ∈ rl ∨ x = r := fun {x} h => by
    rcases List.mem_append.mp h with h | h
    · exact .inl h
    · exact .inr (List.mem_singleton.mp h)
  have sh1 : st.2 = [] ∨ ∃ x ∈ rl ++ [r], gcdI x.1 = 0 ∧ x.2 < 0 ∧ st.2 = [(x.1, -1)] := t.sh.elim .inl fun ⟨x, h, q⟩ => .inr ⟨x, inl h, q⟩
  unfold tstep
  by_cases h0 : gcdI r.1 = 0
  · rw [if_pos h0]
    by_cases hb : r.2 < 0
    · rw [if_pos hb]
      refine ⟨t.nd, fun p hp => ?_, .inr ⟨r, inr, h0, hb, rfl⟩, fun x hx hg => ?_, fun _ _ _ _ z => nomatch (show [(r.1, -1)] = ([] : List Rw) from z)⟩
      · obtain ⟨a, b, c⟩ := t.of p hp; exact ⟨a, b, inl c⟩
      · rcases cs hx with hx | rfl
        · exact t.has x hx hg
        · exact absurd h0 hg
    · rw [if_neg hb]
      refine ⟨t.nd, fun p hp => ?_, sh1, fun x hx hg => ?_, fun x hx hg hz => ?_⟩
      · obtain ⟨a, b, c⟩ := t.of p hp; exact ⟨a, b, inl c⟩
      · rcases cs hx with hx | rfl
        · exact t.has x hx hg
        · exact absurd h0 hg
      · rcases cs hx with hx | rfl
        · exact t.shut x hx hg hz
        · exact absurd hz hb
  · rw [if_neg h0]
    have shut1 : ∀ x ∈ rl ++ [r], gcdI x.1 = 0 → x.2 < 0 → st.2 ≠ [] := fun x hx hg hz => by
      rcases cs hx with hx | rfl
      · exact t.shut x hx hg hz
      · exact absurd hg h0
    cases hv : valR st.1 (lowI r.1) with
    | none =>
      dsimp only
      refine ⟨?_, fun p hp => ?_, sh1, fun x hx hg => ?_, shut1⟩
      · rw [List.map_append, List.nodup_append]
        refine ⟨t.nd, List.nodup_cons.mpr ⟨List.not_mem_nil, List.nodup_nil⟩, fun a ha b hb => ?_⟩
        obtain ⟨p, hp, rfl⟩ := List.mem_map.mp ha
        rw [List.mem_singleton.mp hb]
        exact valR_none hv p hp
      · rcases List.mem_append.mp hp with hp | hp
        · obtain ⟨a, b, c⟩ := t.of p hp; exact ⟨a, b, inl c⟩
        · rw [List.mem_singleton.mp hp]
          exact ⟨rfl, h0, inr⟩
      · rcases cs hx with hx | rfl
        · obtain ⟨o, a, b⟩ := t.has x hx hg
          exact ⟨o, List.mem_append_left _ a, b⟩
        · exact ⟨x, List.mem_append_right _ List.mem_cons_self, Int.le_refl _⟩
    | some o =>
      dsimp only
      have ho := valR_some hv
      obtain ⟨o1, o2, o3⟩ := t.of _ ho
      have o2 : gcdI o.1 ≠ 0 := o2
      cases hn : narI r o with
      | false =>
        rw [if_neg Bool.false_ne_true]
        refine ⟨t.nd, fun p hp => ?_, sh1, fun x hx hg => ?_, shut1⟩
        · obtain ⟨a, b, c⟩ := t.of p hp; exact ⟨a, b, inl c⟩
        · rcases cs hx with hx | rfl
          · exact t.has x hx hg
          · exact ⟨o, ho, narI_f hn⟩
      | true =>
        rw [if_pos rfl]
        refine ⟨?_, fun p hp => ?_, sh1, fun x hx hg => ?_, shut1⟩
        · show ((putR st.1 (lowI r.1) r).map (·.1)).Nodup
          rw [putR_keys hv]; exact t.nd
        · have hp : p ∈ putR st.1 (lowI r.1) r := hp
          unfold putR at hp
          rw [hv, if_pos (show (some o).isSome = true from rfl)] at hp
          obtain ⟨q, hq, rfl⟩ := List.mem_map.mp hp
          by_cases e : q.1 = lowI r.1
          · rw [if_pos e]; exact ⟨e, h0, inr⟩
          · rw [if_neg e]; obtain ⟨a, b, c⟩ := t.of q hq; exact ⟨a, b, inl c⟩
        · have hr : (lowI r.1, r) ∈ putR st.1 (lowI r.1) r := by
            unfold putR
            rw [hv, if_pos (show (some o).isSome = true from rfl)]
            exact List.mem_map.mpr ⟨_, ho, by rw [if_pos rfl]⟩
          rcases cs hx with hx | rfl
          · obtain ⟨o', a, b⟩ := t.has x hx hg
            by_cases e : lowI x.1 = lowI r.1
            · refine ⟨r, e ▸ hr, ?_⟩
              have e2 : o' = o := by
                have := valR_of t.nd a
                rw [e, hv] at this
                cases this; rfl
              subst e2
              have hn := narI_t hn
              have g0 : 0 < gcdI o'.1 := by have := gcdI_nn o'.1; omega
              have g1 : 0 < gcdI x.1 := by have := gcdI_nn x.1; omega
              have g2 : 0 < gcdI r.1 := by have := gcdI_nn r.1; omega
              have s1 := Int.mul_le_mul_of_nonneg_left (Int.le_of_lt hn) (Int.le_of_lt g1)
              have s2 := Int.mul_le_mul_of_nonneg_left b (Int.le_of_lt g2)
              refine Int.le_of_mul_le_mul_left (a := gcdI o'.1) ?_ g0
              have e1 : gcdI o'.1 * (r.2 * gcdI x.1) = gcdI x.1 * (r.2 * gcdI o'.1) := by grind
              have e2 : gcdI x.1 * (o'.2 * gcdI r.1) = gcdI r.1 * (o'.2 * gcdI x.1) := by grind
              have e3 : gcdI r.1 * (x.2 * gcdI o'.1) = gcdI o'.1 * (x.2 * gcdI r.1) := by grind
              rw [e1, ← e3]
              exact Int.le_trans s1 (by rw [e2]; exact s2)
            · refine ⟨o', ?_, b⟩
              show _ ∈ putR st.1 (lowI r.1) r
              unfold putR
              rw [hv, if_pos (show (some o).isSome = true from rfl)]
              exact List.mem_map.mpr ⟨_, a, by rw [if_neg e]⟩
          · exact ⟨x, hr, Int.le_refl _⟩
theorem tok_tid (rl : List Rw) : TOk (tid rl) rl := by
  have : ∀ (xs ys : List Rw) (st : TS), TOk st ys → TOk (xs.foldl tstep st) (ys ++ xs) := by
    intro xs
    induction xs with
    | nil => intro ys st h; rw [List.append_nil]; exact h
    | cons x xs ih =>
      intro ys st h
      have := ih (ys ++ [x]) (tstep st x) (h.step x)
      rw [List.append_assoc] at this
      exact this
  have h0 : TOk (([], []) : TS) [] := ⟨List.nodup_nil, (fun p hp => nomatch hp), .inl rfl, (fun r hr => nomatch hr), (fun r hr => nomatch hr)⟩
  exact this rl [] _ h0
/-! ### tidied again -/
theorem tstep_new {st : TS} {r : Rw} (h : gcdI r.1 ≠ 0) (hn : ∀ p ∈ st.1, p.1 ≠ lowI r.1) : tstep st r = (st.1 ++ [(lowI r.1, r)], st.2) := by
  have hv : valR st.1 (lowI r.1) = none := by
    cases hv : valR st.1 (lowI r.1) with
    | none => rfl
    | some o => exact absurd rfl (hn _ (valR_some hv))
  unfold tstep
  rw [if_neg h, hv]
theorem tid_fold : ∀ (ps qs : List (List Int × Rw)) (sh : List Rw), ((qs ++ ps).map (·.1)).Nodup → (∀ p ∈ ps, p.1 = lowI p.2.1 ∧ gcdI p.2.1 ≠ 0) →
    (ps.map fun p => lowRow p.2).foldl tstep ((qs.map fun p => (p.1, lowRow p.2)), sh) = ((qs ++ ps).map (fun p => (p.1, lowRow p.2)), sh)
  | [], qs, sh, _, _ => by rw [List.append_nil]; rfl
  | p :: ps, qs, sh, hn, hp => by
    obtain ⟨h1, h2⟩ := hp p List.mem_cons_self
    obtain ⟨w1, w2⟩ := lowRow_way h2
    rw [List.map_cons, List.foldl_cons, tstep_new w2 fun q hq => ?_]
    · have := tid_fold ps (qs ++ [p]) sh (by rw [List.append_assoc]; exact hn) fun q hq => hp q (List.mem_cons_of_mem _ hq)
      rw [List.append_assoc] at this
      rw [w1, ← h1]
      rw [List.map_append] at this
      exact this
    · obtain ⟨x, hx, rfl⟩ := List.mem_map.mp hq
      rw [w1, ← h1]
      show x.1 ≠ p.1
      rw [List.map_append, List.map_cons, List.nodup_append] at hn
      exact hn.2.2 _ (List.mem_map.mpr ⟨x, hx, rfl⟩) _ List.mem_cons_self
theorem gcdI_of_zero {st : TS} {rl : List Rw} (t : TOk st rl) : ∀ sh : List Rw, st.2 = sh → st.2.foldl tstep (st.1.map (fun p => (p.1, lowRow p.2)), []) = (st.1.map (fun p => (p.1, lowRow p.2)), st.2) := fun sh _ => by
  rcases t.sh with h | ⟨r, hr, h0, hb, h⟩
  · rw [h]; rfl
  · rw [h, List.foldl_cons, List.foldl_nil]
    unfold tstep
    rw [if_pos h0, if_pos (show (-1 : Int) < 0 by decide)]
theorem tid_again (rl : List Rw) : tidR (tidR rl) = tidR rl := by
  have t := tok_tid rl
  have e : tid (tidR rl) = ((tid rl).1.map (fun p => (p.1, lowRow p.2)), (tid rl).2) := by
    show (tidR rl).foldl tstep ([], []) = _
    unfold tidR
    rw [List.foldl_append]
    have := tid_fold (tid rl).1 [] [] (by rw [List.nil_append]; exact t.nd) fun p hp => ⟨(t.of p hp).1, (t.of p hp).2.1⟩
    rw [List.nil_append] at this
    rw [show (([] : List (List Int × Rw)), ([] : List Rw)) = (([] : List (List Int × Rw)).map (fun p => (p.1, lowRow p.2)), []) from rfl, this]
    exact gcdI_of_zero t _ rfl
  show (tid (tidR rl)).1.map (fun p => lowRow p.2) ++ (tid (tidR rl)).2 = tidR rl
  rw [e]
  show (((tid rl).1.map fun p => (p.1, lowRow p.2)).map fun p => lowRow p.2) ++ (tid rl).2 = _
  rw [List.map_map]
  unfold tidR
  congr 1
  exact List.map_congr_left fun p hp => lowRow_low (t.of p hp).2.1
/-! ### points -/
theorem wsF_scale (c : Int) : ∀ (rs : List Int) (ps : List (Int × Int)) (T B : Int), (wsF (rs.map (c * ·)) ps (c * T) B).1 = c * (wsF rs ps T B).1 ∧ (wsF (rs.map (c * ·)) ps (c * T) B).2 = (wsF rs ps T B).2
  | [], _, _, _ => ⟨rfl, rfl⟩
  | _ :: _, [], _, _ => ⟨rfl, rfl⟩
  | r :: rs, p :: ps, T, B => by
    rw [List.map_cons]
    unfold wsF
    rw [show c * T * p.2 + c * r * p.1 * B = c * (T * p.2 + r * p.1 * B) from by grind]
    exact wsF_scale c rs ps _ _
theorem wsF_scale0 (c : Int) (rs : List Int) (ps : List (Int × Int)) : (wsF (rs.map (c * ·)) ps 0 1).1 = c * (wsF rs ps 0 1).1 ∧ (wsF (rs.map (c * ·)) ps 0 1).2 = (wsF rs ps 0 1).2 := by
  have := wsF_scale c rs ps 0 1
  rw [Int.mul_zero] at this
  exact this
theorem hld_low (r : Rw) (ps : List (Int × Int)) : hld (lowRow r).1 (lowRow r).2 ps = hld r.1 r.2 ps := by
  obtain ⟨h, h0, e1, e2⟩ := lowRow_eq r
  obtain ⟨w1, w2⟩ := wsF_scale0 h (lowRow r).1 ps
  rw [← e1] at w1 w2
  unfold hld
  rw [decide_eq_decide, w1, w2]
  conv => rhs; rw [e2]
  rw [show h * (lowRow r).2 * (wsF (lowRow r).1 ps 0 1).2 = h * ((lowRow r).2 * (wsF (lowRow r).1 ps 0 1).2) from by grind]
  exact (Int.mul_le_mul_left h0).symm
theorem hld_zero {r : Rw} (h : gcdI r.1 = 0) {ps : List (Int × Int)} (hp : ∀ p ∈ ps, 0 < p.2) : hld r.1 r.2 ps = decide (0 ≤ r.2) := by
  have e : r.1 = r.1.map (0 * ·) := by
    conv => lhs; rw [← List.map_id r.1]
    exact List.map_congr_left fun x hx => by rw [gcdI_zero h hx]; rfl
  have hB := wsF_pos r.1 ps 0 1 (by decide) hp
  have e1 : (wsF r.1 ps 0 1).1 = 0 := by
    have := (wsF_scale0 0 r.1 ps).1
    rw [← e, Int.zero_mul] at this
    exact this
  unfold hld
  rw [e1, decide_eq_decide]
  constructor
  · intro h
    exact Classical.byContradiction fun z => by
      have : r.2 * (wsF r.1 ps 0 1).2 < 0 := Int.mul_neg_of_neg_of_pos (by omega) hB
      omega
  · intro h
    exact Int.mul_nonneg h (Int.le_of_lt hB)
theorem hld_nar {r o : Rw} (hr : gcdI r.1 ≠ 0) (ho : gcdI o.1 ≠ 0) (e : lowI r.1 = lowI o.1) (hb : o.2 * gcdI r.1 ≤ r.2 * gcdI o.1) {ps : List (Int × Int)} (hp : ∀ p ∈ ps, 0 < p.2) (h : hld o.1 o.2 ps = true) : hld r.1 r.2 ps = true := by
  obtain ⟨a1, a2⟩ := wsF_scale0 (gcdI r.1) (lowI r.1) ps
  obtain ⟨b1, b2⟩ := wsF_scale0 (gcdI o.1) (lowI o.1) ps
  rw [lowI_back _ hr] at a1 a2
  rw [lowI_back _ ho] at b1 b2
  rw [← e] at b1 b2
  unfold hld at h ⊢
  have h := of_decide_eq_true h
  rw [b1, b2] at h
  rw [decide_eq_true_iff, a1, a2]
  have hB := wsF_pos (lowI r.1) ps 0 1 (by decide) hp
  have g1 : 0 < gcdI r.1 := by have := gcdI_nn r.1; omega
  have g2 : 0 < gcdI o.1 := by have := gcdI_nn o.1; omega
  generalize (wsF (lowI r.1) ps 0 1).1 = T at *
  generalize (wsF (lowI r.1) ps 0 1).2 = B at *
  have s1 := Int.mul_le_mul_of_nonneg_left h (Int.le_of_lt g1)
  have s2 := Int.mul_le_mul_of_nonneg_right hb (Int.le_of_lt hB)
  refine Int.le_of_mul_le_mul_left (a := gcdI o.1) ?_ g2
  rw [show gcdI o.1 * (gcdI r.1 * T) = gcdI r.1 * (gcdI o.1 * T) from by grind, show gcdI o.1 * (r.2 * B) = r.2 * gcdI o.1 * B from by grind]
  exact Int.le_trans s1 (by rw [show gcdI r.1 * (o.2 * B) = o.2 * gcdI r.1 * B from by grind]; exact s2)
/-- a point lies in the tidied room just where it lies in the room -/
theorem tid_all (rl : List Rw) {ps : List (Int × Int)} (hp : ∀ p ∈ ps, 0 < p.2) : (tidR rl).all (fun r => hld r.1 r.2 ps) = rl.all fun r => hld r.1 r.2 ps := by
  have t := tok_tid rl
  rw [Bool.eq_iff_iff, List.all_eq_true, List.all_eq_true]
  constructor
  · intro h r hr
    by_cases h0 : gcdI r.1 = 0
    · rw [hld_zero h0 hp, decide_eq_true_iff]
      refine Classical.byContradiction fun z => ?_
      have z : r.2 < 0 := by omega
      rcases t.sh with e | ⟨x, hx, x0, xb, e⟩
      · exact t.shut r hr h0 z e
      · have := h (x.1, -1) (by unfold tidR; rw [e]; exact List.mem_append_right _ List.mem_cons_self)
        rw [hld_zero (r := (x.1, -1)) x0 hp] at this
        exact absurd (show (0 : Int) ≤ -1 from of_decide_eq_true this) (by decide)
    · obtain ⟨o, ho, hb⟩ := t.has r hr h0
      obtain ⟨o1, o2, o3⟩ := t.of _ ho
      have := h (lowRow o) (List.mem_append_left _ (List.mem_map.mpr ⟨_, ho, rfl⟩))
      rw [hld_low] at this
      exact hld_nar h0 o2 o1 hb hp this
  · intro h r hr
    unfold tidR at hr
    rcases List.mem_append.mp hr with hr | hr
    · obtain ⟨p, hq, rfl⟩ := List.mem_map.mp hr
      rw [hld_low]
      exact h _ (t.of p hq).2.2
    · rcases t.sh with e | ⟨x, hx, x0, xb, e⟩
      · rw [e] at hr; cases hr
      · have := h x hx
        rw [hld_zero x0 hp] at this
        have := of_decide_eq_true this
        omega
theorem tid_len {n : Nat} {rl : List Rw} (h : ∀ r ∈ rl, r.1.length = n) : ∀ r ∈ tidR rl, r.1.length = n := fun r hr => by
  have t := tok_tid rl
  unfold tidR at hr
  rcases List.mem_append.mp hr with hr | hr
  · obtain ⟨p, hq, rfl⟩ := List.mem_map.mp hr
    have := h _ (t.of p hq).2.2
    obtain ⟨c, _, e, _⟩ := lowRow_eq p.2
    rw [e, List.length_map] at this
    exact this
  · rcases t.sh with e | ⟨x, hx, x0, xb, e⟩
    · rw [e] at hr; cases hr
    · rw [e] at hr
      rw [List.mem_singleton.mp hr]
      exact h x hx
theorem lowRow_bnd {B : Nat} {r : Rw} (h1 : okR B r.1) (h2 : bnd B r.2) : okR B (lowRow r).1 ∧ bnd B (lowRow r).2 := by
  have le : ∀ {h x : Int}, 0 < h → x.natAbs ≤ (h * x).natAbs := fun {h x} h0 => by
    rw [Int.natAbs_mul]
    exact Nat.le_mul_of_pos_left _ (by omega)
  obtain ⟨c, c0, e1, e2⟩ := lowRow_eq r
  constructor
  · intro x hx
    have : c * x ∈ r.1 := by rw [e1]; exact List.mem_map.mpr ⟨x, hx, rfl⟩
    exact bnd_le (le c0) (h1 _ this)
  · rw [e2] at h2
    exact bnd_le (le c0) h2
theorem tid_bnd {B : Nat} (hB : 1 ≤ B) {rl : List Rw} (h : ∀ r ∈ rl, okR B r.1 ∧ bnd B r.2) : ∀ r ∈ tidR rl, okR B r.1 ∧ bnd B r.2 := fun r hr => by
  have t := tok_tid rl
  unfold tidR at hr
  rcases List.mem_append.mp hr with hr | hr
  · obtain ⟨p, hq, rfl⟩ := List.mem_map.mp hr
    obtain ⟨a, b⟩ := h _ (t.of p hq).2.2
    exact lowRow_bnd a b
  · rcases t.sh with e | ⟨x, hx, x0, xb, e⟩
    · rw [e] at hr; cases hr
    · rw [e] at hr
      rw [List.mem_singleton.mp hr]
      exact ⟨(h x hx).1, bnd_le (x := -1) (y := 1) (by decide) (bnd_one (by omega))⟩
theorem tid_count (rl : List Rw) : (tid rl).1.length ≤ rl.length ∧ (tid rl).2.length ≤ 1 := by
  have : ∀ (xs : List Rw) (st : TS), (xs.foldl tstep st).1.length ≤ st.1.length + xs.length := by
    intro xs
    induction xs with
    | nil => intro st; exact Nat.le_refl _
    | cons x xs ih =>
      intro st
      rw [List.foldl_cons, List.length_cons]
      have h1 := ih (tstep st x)
      have h2 : (tstep st x).1.length ≤ st.1.length + 1 := by
        unfold tstep
        split
        · split <;> exact Nat.le_succ _
        · split
          · rw [List.length_append]; exact Nat.le_refl _
          · rename_i o hv
            split
            · have := congrArg List.length (putR_keys (y := x) hv)
              rw [List.length_map, List.length_map] at this
              show (putR st.1 (lowI x.1) x).length ≤ _
              omega
            · exact Nat.le_succ _
      omega
  refine ⟨by have := this rl ([], []); rw [List.length_nil, Nat.zero_add] at this; exact this, ?_⟩
  rcases (tok_tid rl).sh with e | ⟨x, _, _, _, e⟩ <;> rw [e]
  · exact Nat.zero_le _
  · exact Nat.le_refl _
end Dl

/-! The D-layer, part 42: direction, narrower, tidied. -/
namespace Dl
open PySem PySem.Spec
open PyProof.Rows L2
local macro_rules | `(tactic| walk_at "rd") => `(tactic| ((conv => whnf); (try dsimp only [startD, wipeD, q_map_cons, q_map_nil, q_app_cons, q_app_nil, q_len_cons, q_len_nil, q_rep_0, q_rep_s, q_get_0, q_get_s, q_set_0, q_set_s, ifP_t, ifP_f, Nat.reduceAdd, Nat.reduceSub, Int.reduceToNat, Int.reducePow, Int.reduceAdd, Int.reduceMul])))
local macro_rules | `(tactic| walk_at "bx") => `(tactic| first | with_reducible assumption | (apply bnd_mul <;> walk_at "bx") | (apply bnd_addM <;> walk_at "bx") | (apply bnd_subM <;> walk_at "bx") | (apply bnd_negM <;> walk_at "bx") | exact bnd_lit (k := 8) (by decide) | exact bnd_lit (k := 64) (by decide) | (with_reducible (apply_assumption)))
local macro_rules | `(tactic| walk_at "bd") => `(tactic| first | with_reducible assumption | (apply bnd_mono; (walk_at "bx"); first | omega | decide))
local macro_rules | `(tactic| walk_at "sd") => `(tactic| first | with_reducible assumption | omega | with_reducible rfl | exact (rfl : (_ : Bool) = true) | exact (rfl : @Eq (Option D) _ none) | decide | exact few_of (by decide) | exact divOk_small (by decide) (by decide +kernel) | exact mulOk_r (by omega) (by omega) | exact mulOk_l (by omega) (by omega) | ((with_reducible apply mul_of); (walk_at "bx"); (walk_at "bx"); first | omega | decide) | exact few_of (by simp only [List.length_append, List.length_map, List.length_cons, List.length_nil, tab_len, List.length_replicate]; omega))
local macro_rules | `(tactic| walk_at "go") => `(tactic| ((try walk_at "rd"); (repeat (refine And.intro (by walk_at "sd") ?_; try walk_at "rd"))))
theorem cut_row (l : List Int) (b : Int) : cut ((l ++ [b]).map D.int) none (some (-1)) = l.map D.int := by
  rw [List.map_append]
  exact cut_init _ _
theorem not_whole (l : List Int) (b : Int) : ¬(HT.sIx ((l ++ [b]).map D.int).length 0 none = 0 ∧ HT.sIx ((l ++ [b]).map D.int).length ((l ++ [b]).map D.int).length (some (-1)) = ((l ++ [b]).map D.int).length) := fun h => by
  have := h.2
  rw [sIx_m1, List.length_map, List.length_append, List.length_singleton] at this
  omega
theorem fL_bnd {B : Nat} {l : List Int} (h : okR B l) (j : Nat) : bnd B (fL l j) := by
  unfold fL
  rw [List.getD_eq_getElem?_getD]
  cases hj : l[j]? with
  | none => exact bnd_zero
  | some x => exact h x (List.mem_of_getElem? hj)
abbrev g_direction : DF := fun ds Q _ => ∃ r : Rw, ds = [rowT r] ∧ r.1.length ≤ 900 ∧ okR 8000 r.1 ∧ Q (.tup ((lowI r.1).map .int))
abbrev N_direction : List Str := ["row"]
def tb_direction : DS :=
  (dRet (dCall 1 [] g_lowest (dCons (dSl (dVarP 0) dNoPart (dPart (dNeg (dC (.int 1))))) dNil)))
theorem rd_direction (ds : List D) (Q E : EQ) (_ : ds.length = 1) (h : g_direction ds Q E) : tb_direction (dE Q E) (startD N_direction ds) := by
  obtain ⟨r, rfl, hl, hb, q⟩ := h
  unfold tb_direction dE rowT
  walk_at "go"
  refine ⟨not_whole _ _, rfl, r.1.length, fL r.1, ?_, by omega, fL_bnd hb, ?_⟩
  · show [_] = [_]
    rw [cut_row, rowW_list]
  · rw [rowW_low]
    exact q
abbrev g_narrower : DF := fun ds Q _ => ∃ r o : Rw, ds = [rowT r, rowT o] ∧ r.1.length ≤ 900 ∧ o.1.length ≤ 900 ∧ okR 8000 r.1 ∧ okR 8000 o.1 ∧ bnd 8000 r.2 ∧ bnd 8000 o.2 ∧ gcdI r.1 ≠ 0 ∧ gcdI o.1 ≠ 0 ∧ Q (.bl (narI r o))
abbrev N_narrower : List Str := ["row", "other"]
def tb_narrower : DS :=
  (dRet (dOp kLt (dOp kMul (dOp kIx (dVarP 0) (dNeg (dC (.int 1)))) (dCall 1 [] g_divisor_of (dCons (dSl (dVarP 1) dNoPart (dPart (dNeg (dC (.int 1))))) dNil))) (dOp kMul (dOp kIx (dVarP 1) (dNeg (dC (.int 1)))) (dCall 1 [] g_divisor_of (dCons (dSl (dVarP 0) dNoPart (dPart (dNeg (dC (.int 1))))) dNil)))))
theorem gcdI_bnd {B : Nat} {l : List Int} (h : okR B l) (h0 : gcdI l ≠ 0) : bnd B (gcdI l) := gcdL_bnd (fL_bnd h) h0
theorem rd_narrower (ds : List D) (Q E : EQ) (_ : ds.length = 2) (h : g_narrower ds Q E) : tb_narrower (dE Q E) (startD N_narrower ds) := by
  obtain ⟨r, o, rfl, l1, l2, b1, b2, b3, b4, h1, h2, q⟩ := h
  have c1 := gcdI_bnd b1 h1
  have c2 := gcdI_bnd b2 h2
  unfold tb_narrower dE rowT
  walk_at "rd"
  rw [atI_last]
  walk_at "go"
  refine ⟨not_whole _ _, rfl, o.1.length, fL o.1, _, rfl, .inl ?_, ?_⟩
  · rw [cut_row, tab_list]
    rfl
  walk_at "go"
  refine And.intro (mul_of b3 c2 (by omega)) ?_
  walk_at "rd"
  rw [atI_last]
  walk_at "go"
  refine ⟨not_whole _ _, rfl, r.1.length, fL r.1, _, rfl, .inl ?_, ?_⟩
  · rw [cut_row, tab_list]
    rfl
  walk_at "go"
  refine And.intro (mul_of b4 c1 (by omega)) ?_
  walk_at "rd"
  exact q
abbrev g_tidied : DF1 := fun ds Q _ => ∃ rl : List Rw, ds = [.lst (rl.map rowT)] ∧ rl.length ≤ 10000 ∧ (∀ r ∈ rl, 1 ≤ r.1.length ∧ r.1.length ≤ 900 ∧ okR 8000 r.1 ∧ bnd 8000 r.2) ∧ Q ((tidR rl).map rowT)
abbrev N_tidied : List Str := ["room", "best", "shut", "row", "way"]
def tb_tidied_b : DS := (dSq (dSet 4 (dCall 1 [] g_direction (dCons (dVar 3) dNil))) (dIf (dTest (dOp kEq (dCall 1 [] g_divisor_of (dCons (dVar 4) dNil)) (dC (.int 0)))) (dIf (dTest (dOp kLt (dOp kIx (dVarP 3) (dNeg (dC (.int 1)))) (dC (.int 0)))) (dSet 2 (dLst (dCons (dOp kAdd (dVarP 4) (dTup (dCons (dNeg (dC (.int 1))) dNil))) dNil))) dNext) (dIf (dOr (dNotInD 1 (dVar 4)) (dTest (dCall 2 [] g_narrower (dCons (dVar 3) (dCons (dGetD 1 (dVar 4)) dNil))))) (dPutD 1 (dCall 1 [] g_lowest (dCons (dVar 3) dNil)) (dVar 4)) dNext)))
def tb_tidied : DS :=
  (dSq (dNewD 1) (dSq (dSet 2 (dLst dNil)) (dSq (dFor (dSeq (dVar 0)) (gNm 3) tb_tidied_b) (dRetN1 (dAddN (dFz (dValsN 1)) (dVarP 2))))))
/-- the program's dict, by the law's -/
def kvD (kvs : List (List Int × Rw)) : List KD1 := kvs.map fun p => (p.1, rowT (lowRow p.2))
theorem valD_kvD (kvs : List (List Int × Rw)) (k : List Int) : valD (kvD kvs) k = (valR kvs k).map fun o => rowT (lowRow o) := by
  induction kvs with
  | nil => rfl
  | cons p r ih =>
    show (if p.1 = k then some (rowT (lowRow p.2)) else valD (kvD r) k) = _
    unfold valR
    by_cases e : p.1 = k
    · rw [if_pos e, if_pos e]; rfl
    · rw [if_neg e, if_neg e]; exact ih
theorem putD_kvD (kvs : List (List Int × Rw)) (k : List Int) (y : Rw) : putD (kvD kvs) k (rowT (lowRow y)) = kvD (putR kvs k y) := by
  unfold putD putR
  rw [valD_kvD, Option.isSome_map]
  split
  · unfold kvD
    rw [List.map_map, List.map_map]
    exact List.map_congr_left fun p _ => by
      show (if p.1 = k then (p.1, rowT (lowRow y)) else (p.1, rowT (lowRow p.2))) = _
      show _ = ((if p.1 = k then (p.1, y) else p).1, rowT (lowRow (if p.1 = k then (p.1, y) else p).2))
      split <;> rfl
  · unfold kvD
    rw [List.map_append]
    rfl
theorem low0 {r : Rw} (h : gcdI r.1 = 0) : lowI r.1 = r.1 := by unfold lowI; rw [if_pos h]
theorem tidied_step {d : DE} {s0 : Sl} {st : TS} {r : Rw} (h0' : 1 ≤ r.1.length) (h1 : r.1.length ≤ 900) (h2 : okR 8000 r.1) (h3 : bnd 8000 r.2) (hn : st.1.length ≤ 10000)
    (hk : ∀ p ∈ st.1, p.1 = lowI p.2.1 ∧ gcdI p.2.1 ≠ 0 ∧ p.2.1.length ≤ 900 ∧ okR 8000 p.2.1 ∧ bnd 8000 p.2.2) (s4 : Sl)
    (nx : ∀ s4, d.nx [s0, .od (oK (kvD (tstep st r).1)), .sh (.lst ((tstep st r).2.map rowT)), .sh (rowT r), s4]) :
    tb_tidied_b d [s0, .od (oK (kvD st.1)), .sh (.lst (st.2.map rowT)), .sh (rowT r), s4] := by
  have g0 := gcdI_low0 r.1
  unfold tb_tidied_b
  walk_at "go"
  refine ⟨r, rfl, h1, h2, ?_⟩
  walk_at "go"
  refine ⟨_, fL (lowI r.1), _, rfl, .inl (congrArg D.tup (tab_list (lowI r.1))), ?_⟩
  walk_at "go"
  by_cases h0 : gcdI r.1 = 0
  · rw [decide_eq_true (show gcdL (fL (lowI r.1)) (lowI r.1).length = 0 from g0.mpr h0)]
    walk_at "rd"
    rw [atI_last]
    walk_at "rd"
    by_cases hb : r.2 < 0
    · rw [decide_eq_true hb]
      walk_at "go"
      have e : tstep st r = (st.1, [(r.1, -1)]) := by unfold tstep; rw [if_pos h0, if_pos hb]
      have nx := nx (.sh (D.tup (List.map D.int (lowI r.1))))
      rw [e] at nx
      rw [low0 h0] at nx ⊢
      have e2 : rowT (r.1, -1) = D.tup (r.1.map D.int ++ [D.int (-1)]) := by unfold rowT; rw [List.map_append]; rfl
      rw [List.map_cons, e2, List.map_nil] at nx
      refine ⟨fun z => ?_, few_of ?_, ?_⟩
      · have := congrArg List.length z
        rw [List.length_map, List.length_nil] at this
        omega
      · rw [List.length_append, List.length_map, List.length_singleton]; omega
      · walk_at "go"
        exact nx
    · rw [decide_eq_false hb]
      walk_at "go"
      have e : tstep st r = st := by unfold tstep; rw [if_pos h0, if_neg hb]
      have nx := nx (.sh (D.tup (List.map D.int (lowI r.1))))
      rw [e] at nx
      exact nx
  · rw [decide_eq_false (show ¬ gcdL (fL (lowI r.1)) (lowI r.1).length = 0 from fun z => h0 (g0.mp z))]
    walk_at "rd"
    refine ⟨lowI r.1, rfl, ?_⟩
    walk_at "go"
    refine ⟨kvD st.1, rfl, ?_⟩
    rw [valD_kvD]
    have low : ∀ d' : DE, d'.nx = d.nx → (∀ kvs, kvs = putR st.1 (lowI r.1) r → d.nx [s0, .od (oK (kvD kvs)), .sh (.lst (st.2.map rowT)), .sh (rowT r), .sh (D.tup ((lowI r.1).map .int))]) →
        dPutD 1 (dCall 1 [] g_lowest (dCons (dVar 3) dNil)) (dVar 4) d' [s0, .od (oK (kvD st.1)), .sh (.lst (st.2.map rowT)), .sh (rowT r), .sh (D.tup ((lowI r.1).map .int))] := fun d' hd nx2 => by
      walk_at "go"
      refine ⟨(allR r).length, fL (allR r), ?_, ?_, fL_bnd (okR_snoc h2 h3), ?_⟩
      · rw [rowW_list]; rfl
      · unfold allR; rw [List.length_append, List.length_singleton]; omega
      · rw [rowW_low]
        rw [show D.tup ((lowI (allR r)).map .int) = rowT (lowRow r) from rowT_low r]
        walk_at "go"
        refine ⟨kvD st.1, rfl, ?_⟩
        walk_at "go"
        refine ⟨lowI r.1, rfl, ?_, ?_⟩
        · unfold kvD; rw [List.length_map]; omega
        · rw [putD_kvD, hd]
          exact nx2 _ rfl
    cases hv : valR st.1 (lowI r.1) with
    | none =>
      have e : tstep st r = (putR st.1 (lowI r.1) r, st.2) := by
        unfold tstep putR
        rw [if_neg h0, hv]
        rfl
      walk_at "rd"
      exact low d rfl fun kvs hk => by
        subst hk
        have nx := nx (.sh (D.tup (List.map D.int (lowI r.1))))
        rw [e] at nx
        exact nx
    | some o =>
      obtain ⟨o1, o2, o3, o4, o5⟩ := hk _ (valR_some hv)
      have ow := lowRow_way (r := o) o2
      have ob := lowRow_bnd o4 o5
      have ol : (lowRow o).1.length = o.1.length := by
        obtain ⟨c, _, e, _⟩ := lowRow_eq o
        conv => rhs; rw [e, List.length_map]
      walk_at "rd"
      refine ⟨kvD st.1, rfl, ?_⟩
      walk_at "rd"
      refine ⟨lowI r.1, rfl, ?_⟩
      rw [valD_kvD, hv]
      walk_at "go"
      refine ⟨r, lowRow o, rfl, h1, by rw [ol]; exact o3, h2, ob.1, h3, ob.2, h0, ow.2, ?_⟩
      rw [nar_low]
      cases hn : narI r o with
      | false =>
        have e : tstep st r = st := by
          unfold tstep
          rw [if_neg h0, hv]
          dsimp only
          rw [hn, if_neg Bool.false_ne_true]
        walk_at "rd"
        have nx := nx (.sh (D.tup (List.map D.int (lowI r.1))))
        rw [e] at nx
        exact nx
      | true =>
        have e : tstep st r = (putR st.1 (lowI r.1) r, st.2) := by
          unfold tstep
          rw [if_neg h0, hv]
          dsimp only
          rw [hn, if_pos rfl]
        walk_at "rd"
        exact low d rfl fun kvs hk => by
          subst hk
          have nx := nx (.sh (D.tup (List.map D.int (lowI r.1))))
          rw [e] at nx
          exact nx
theorem rd_tidied (ds : List D) (Q : List D → Prop) (E : EQ) (_ : ds.length = 1) (h : g_tidied ds Q E) : tb_tidied (dE1 Q E) (startD N_tidied ds) := by
  obtain ⟨rl, rfl, hl, hr, q⟩ := h
  have T := tok_tid rl
  have cn := tid_count rl
  have go : ∀ (xs ys : List Rw) (st : TS) (d : DE) (s3 s4 : Sl), rl = ys ++ xs → st = ys.foldl tstep ([], []) → (∀ s3 s4, d.nx [.sh (.lst (rl.map rowT)), .od (oK (kvD (tid rl).1)), .sh (.lst ((tid rl).2.map rowT)), s3, s4]) →
      loopD (gNm 3) tb_tidied_b d (xs.map rowT) [.sh (.lst (rl.map rowT)), .od (oK (kvD st.1)), .sh (.lst (st.2.map rowT)), s3, s4] := by
    intro xs
    induction xs with
    | nil =>
      intro ys st d s3 s4 e1 e2 hd
      rw [List.append_nil] at e1
      subst e1 e2
      exact lp_nil (hd _ _)
    | cons x xs ih =>
      intro ys st d s3 s4 e1 e2 hd
      rw [List.map_cons]
      refine lp_cons ?_
      have tk := tok_tid ys
      have hst : st = tid ys := e2
      have hy : ∀ r ∈ ys, r ∈ rl := fun r h => by rw [e1]; exact List.mem_append_left _ h
      obtain ⟨x0, x1, x2, x3⟩ := hr x (by rw [e1]; exact List.mem_append_right _ List.mem_cons_self)
      refine tidied_step x0 x1 x2 x3 ?_ (fun p hp => ?_) _ fun s4 => ?_
      · rw [hst]
        have := (tid_count ys).1
        have : ys.length ≤ rl.length := by rw [e1, List.length_append]; omega
        omega
      · rw [hst] at hp
        obtain ⟨a, b, c⟩ := tk.of p hp
        exact ⟨a, b, (hr _ (hy _ c)).2⟩
      · exact ih (ys ++ [x]) (tstep st x) d _ _ (by rw [List.append_assoc]; exact e1) (by rw [List.foldl_append, ← e2]; rfl) hd
  unfold tb_tidied dE1
  walk_at "go"
  refine go rl [] ([], []) _ .no .no rfl rfl fun s3 s4 => ?_
  walk_at "go"
  have l1 : (kvD (tid rl).1).length ≤ 10000 := by unfold kvD; rw [List.length_map]; omega
  have ev : (kvD (tid rl).1).map (fun x => x.2) ++ (tid rl).2.map rowT = (tidR rl).map rowT := by
    unfold tidR kvD
    rw [List.map_append, List.map_map, List.map_map]
    rfl
  refine ⟨kvD (tid rl).1, rfl, by omega, ?_⟩
  walk_at "rd"
  rw [ev]
  refine And.intro (few_of ?_) ?_
  · rw [List.length_map]
    unfold tidR
    rw [List.length_append, List.length_map]
    omega
  · exact q
theorem rows_tupy (rl : List Rw) : D.tupys (rl.map rowT) = true := by
  have hin : ∀ l : List Int, D.tupys (l.map .int) = true := fun l => by
    induction l with
    | nil => rfl
    | cons x l ih => rw [List.map_cons]; unfold D.tupys; rw [ih]; rfl
  induction rl with
  | nil => rfl
  | cons r rl ih =>
    rw [List.map_cons]
    unfold D.tupys
    rw [ih]
    unfold rowT D.tupy
    rw [hin]
    rfl
end Dl

/-! The D-layer, part 43: what the laws draw: numbers, boxes, rows of boxes. -/
namespace Dl
open PySem PySem.Spec
open PyProof.Rows L2
local macro_rules | `(tactic| walk_at "rd") => `(tactic| ((conv => whnf); (try dsimp only [startD, wipeD, q_map_cons, q_map_nil, q_app_cons, q_app_nil, q_len_cons, q_len_nil, q_rep_0, q_rep_s, q_get_0, q_get_s, q_set_0, q_set_s, ifP_t, ifP_f, Nat.reduceAdd, Nat.reduceSub, Int.reduceToNat, Int.reducePow, Int.reduceAdd, Int.reduceMul])))
local macro_rules | `(tactic| walk_at "bx") => `(tactic| first | with_reducible assumption | (apply bnd_mul <;> walk_at "bx") | (apply bnd_addM <;> walk_at "bx") | (apply bnd_subM <;> walk_at "bx") | (apply bnd_negM <;> walk_at "bx") | exact bnd_lit (k := 8) (by decide) | exact bnd_lit (k := 64) (by decide) | (with_reducible (apply_assumption)))
local macro_rules | `(tactic| walk_at "bd") => `(tactic| first | with_reducible assumption | (apply bnd_mono; (walk_at "bx"); first | omega | decide))
local macro_rules | `(tactic| walk_at "sd") => `(tactic| first | with_reducible assumption | omega | with_reducible rfl | exact (rfl : (_ : Bool) = true) | exact (rfl : @Eq (Option D) _ none) | decide | exact few_of (by decide) | exact divOk_small (by decide) (by decide +kernel) | exact mulOk_r (by omega) (by omega) | exact mulOk_l (by omega) (by omega) | ((with_reducible apply mul_of); (walk_at "bx"); (walk_at "bx"); first | omega | decide) | exact few_of (by simp only [List.length_append, List.length_map, List.length_cons, List.length_nil, tab_len, List.length_replicate]; omega))
local macro_rules | `(tactic| walk_at "go") => `(tactic| ((try walk_at "rd"); (repeat (refine And.intro (by walk_at "sd") ?_; try walk_at "rd"))))
/-! ### of use everywhere -/
theorem compL_fun {α : Type} {g : DG} {tt : TDb} {te : TD} {ρ : Env'} {Q : List D → Prop} (f F : α → D) (xs : List α)
    (h : ∀ x ∈ xs, ∀ (K1 : D → Prop) (K0 : Prop), K1 (F x) → g (f x) ρ fun ρ2 => tt ρ2 (fun b => ifP b (te ρ2 K1 (fun _ => False)) K0) fun _ => False)
    (q : Q (xs.map F)) : compL g tt te ρ Q (xs.map f) [] := by
  have go : ∀ (xs : List α) (acc : List D), (∀ x ∈ xs, ∀ (K1 : D → Prop) (K0 : Prop), K1 (F x) → g (f x) ρ fun ρ2 => tt ρ2 (fun b => ifP b (te ρ2 K1 (fun _ => False)) K0) fun _ => False) →
      Q (acc ++ xs.map F) → compR g tt te ρ Q (xs.map f) acc := by
    intro xs
    induction xs with
    | nil => intro acc _ q; rw [List.map_nil, List.append_nil] at q; exact q
    | cons x xs ih =>
      intro acc h q
      refine h x List.mem_cons_self _ _ (ih _ (fun e he => h e (List.mem_cons_of_mem _ he)) ?_)
      rw [List.append_assoc]
      exact q
  exact ⟨go xs [] h q⟩
theorem ok_mono {B C : Nat} {l : List Int} (h : okR B l) (hb : B ≤ C) : okR C l := fun x hx => bnd_mono (h x hx) hb
theorem pick_in {α : Type} {f : α → D} {rl : List α} (h : rl ≠ []) (x : Int) : ∃ r ∈ rl, atI (rl.map f) (x.fmod ((rl.map f).length : Int)) = some (f r) := by
  have h0 : 0 < rl.length := List.length_pos_iff.mpr h
  obtain ⟨y, hy, e⟩ := pick (rl.map f) _ x rfl (by rw [List.length_map]; omega)
  obtain ⟨r, hr, rfl⟩ := List.mem_map.mp hy
  exact ⟨r, hr, e⟩
theorem okk_rowT (n : Nat) (r : Rw) : D.okk (n + 1) (rowT r) = true := by
  unfold rowT
  rw [tab_list]
  unfold D.okk
  exact okk_tab _ _ _
theorem okk_rows (rl : List Rw) : D.okk 64 (.lst (rl.map rowT)) = true := by
  unfold D.okk
  exact okks_all fun d hd => by
    obtain ⟨r, _, rfl⟩ := List.mem_map.mp hd
    exact okk_rowT _ r
theorem low2 {t b : Int} (hb : 0 < b) : ∃ u v, lowI [t, b] = [u, v] ∧ 0 < v ∧ u.natAbs ≤ t.natAbs ∧ v.natAbs ≤ b.natAbs := by
  have h0 : gcdI [t, b] ≠ 0 := fun z => by have := gcdI_zero z (x := b) (List.mem_cons_of_mem _ List.mem_cons_self); omega
  have hn := gcdI_nn [t, b]
  have e := lowI_back _ h0
  have e2 : lowI [t, b] = [t.fdiv (gcdI [t, b]), b.fdiv (gcdI [t, b])] := by
    conv => lhs; unfold lowI
    rw [if_neg h0]
    rfl
  refine ⟨_, _, e2, ?_, fdiv_le (by omega), fdiv_le (by omega)⟩
  rw [e2] at e
  have e3 : gcdI [t, b] * b.fdiv (gcdI [t, b]) = b := by
    have := congrArg (fun l : List Int => l.getD 1 0) e
    exact this
  have g0 : 0 < gcdI [t, b] := by omega
  exact Classical.byContradiction fun z => by
    have := Int.mul_nonpos_of_nonneg_of_nonpos (Int.le_of_lt g0) (show b.fdiv (gcdI [t, b]) ≤ 0 by omega)
    omega
theorem compL_fil {α : Type} {g : DG} {tt : TDb} {te : TD} {ρ : Env'} {Q : List D → Prop} (f F : α → D) (p : α → Bool) (xs : List α)
    (h : ∀ x ∈ xs, ∀ (K1 : D → Prop) (K0 : Prop), (p x = true → K1 (F x)) → (p x = false → K0) → g (f x) ρ fun ρ2 => tt ρ2 (fun b => ifP b (te ρ2 K1 (fun _ => False)) K0) fun _ => False)
    (q : Q ((xs.filter p).map F)) : compL g tt te ρ Q (xs.map f) [] := by
  have go : ∀ (xs : List α) (acc : List D), (∀ x ∈ xs, ∀ (K1 : D → Prop) (K0 : Prop), (p x = true → K1 (F x)) → (p x = false → K0) → g (f x) ρ fun ρ2 => tt ρ2 (fun b => ifP b (te ρ2 K1 (fun _ => False)) K0) fun _ => False) →
      Q (acc ++ (xs.filter p).map F) → compR g tt te ρ Q (xs.map f) acc := by
    intro xs
    induction xs with
    | nil => intro acc _ q; rw [List.filter_nil, List.map_nil, List.append_nil] at q; exact q
    | cons x xs ih =>
      intro acc h q
      refine h x List.mem_cons_self _ _ (fun hp => ih _ (fun e he => h e (List.mem_cons_of_mem _ he)) ?_) (fun hp => ih _ (fun e he => h e (List.mem_cons_of_mem _ he)) ?_)
      · rw [List.filter_cons_of_pos hp] at q
        rw [List.append_assoc]
        exact q
      · rw [List.filter_cons_of_neg (by rw [hp]; exact Bool.false_ne_true)] at q
        exact q
  exact ⟨go xs [] h q⟩
theorem pick3' (a b c x : Int) : ∃ y, atI [D.int a, D.int b, D.int c] (x.fmod 3) = some (.int y) ∧ (y = a ∨ y = b ∨ y = c) := by
  obtain ⟨y, hm, h⟩ := pick [D.int a, D.int b, D.int c] 3 x rfl (by decide)
  rcases List.mem_cons.mp hm with rfl | hm
  · exact ⟨_, h, .inl rfl⟩
  rcases List.mem_cons.mp hm with rfl | hm
  · exact ⟨_, h, .inr (.inl rfl)⟩
  rw [List.mem_singleton.mp hm] at h
  exact ⟨_, h, .inr (.inr rfl)⟩
theorem valR_snoc {kvs : List (List Int × Rw)} {k : List Int} {r : Rw} (h : valR kvs k = none) : valR (kvs ++ [(k, r)]) k = some r := by
  induction kvs with
  | nil => exact if_pos rfl
  | cons p q ih =>
    unfold valR at h
    rw [List.cons_append]
    unfold valR
    by_cases e : p.1 = k
    · rw [if_pos e] at h; cases h
    · rw [if_neg e] at h ⊢
      exact ih h
abbrev g_numF : DF := fun ds Q _ => ∃ x far : Int, ds = [.int x, .int far] ∧ 0 ≤ far ∧ bnd 200 far ∧ ∀ r : Int, -far ≤ r → r ≤ far → Q (.int r)
abbrev N_numF : List Str := ["_law_x", "_law_far"]
def tb_numF : DS :=
  (dRet (dOp kSub (dOp kMod (dVarP 0) (dOp kAdd (dOp kMul (dC (.int 2)) (dVarP 1)) (dC (.int 1)))) (dVarP 1)))
theorem rd_numF (ds : List D) (Q E : EQ) (_ : ds.length = 2) (h : g_numF ds Q E) : tb_numF (dE Q E) (startD N_numF ds) := by
  obtain ⟨x, far, rfl, h0, hb, q⟩ := h
  have dv : 2 * far + 1 ≠ 0 := by omega
  have m1 := Int.fmod_nonneg_of_pos x (show (0 : Int) < 2 * far + 1 by omega)
  have m2 := Int.fmod_lt_of_pos x (show (0 : Int) < 2 * far + 1 by omega)
  have b2 : bnd 2 2 := bnd_of (by decide) (by decide)
  unfold tb_numF dE
  walk_at "go"
  refine q _ (by omega) (by omega)
/-! ### boxes -/
def okBox (n : Nat) (bs : List (Int × Int)) : Prop := bs.length = n ∧ ∀ b ∈ bs, b.1 ≤ b.2 ∧ bnd 104 b.1 ∧ bnd 104 b.2
abbrev g_boxF : DF := fun ds Q _ => ∃ (c : Int) (n : Nat) (u : Int), ds = [.int c, .int n, .int u] ∧ 1 ≤ n ∧ n ≤ 3 ∧ 1 ≤ u ∧ u ≤ 10 ^ 30 ∧ ∀ bs : List (Int × Int), okBox n bs → Q (.lst (bs.map pD))
abbrev N_boxF : List Str := ["_law_cell", "_law_many", "_law_unit", "_law_xs", "_law_box_here", "_law_i", "_law_low"]
def tb_boxF : DS :=
  (dSq (dSet 3 (dCall 2 [] g__law_stream (dCons (dVar 0) (dCons (dOp kMul (dC (.int 2)) (dVarP 1)) dNil)))) (dSq (dOwn 4 (dLstN dNil)) (dSq (dFor (dRng1 (dVarP 1)) (gNm 5) (dSq (dSet 6 (dOp kMul (dCall 2 [] g_numF (dCons (dOp kIx (dVarP 3) (dOp kMul (dC (.int 2)) (dVarP 5))) (dCons (dC (.int 3)) dNil))) (dVarP 2))) (dApp 4 (dTup (dCons (dVar 6) (dCons (dOp kAdd (dOp kAdd (dVarP 6) (dOp kMul (dOp kMod (dOp kIx (dVarP 3) (dOp kAdd (dOp kMul (dC (.int 2)) (dVarP 5)) (dC (.int 1)))) (dC (.int 4))) (dVarP 2))) (dOp kMod (dOp kDiv (dOp kIx (dVarP 3) (dOp kAdd (dOp kMul (dC (.int 2)) (dVarP 5)) (dC (.int 1)))) (dC (.int 4))) (dC (.int 2)))) dNil)))))) (dFrz 4 (dRet (dVar 4))))))
theorem rd_boxF (ds : List D) (Q E : EQ) (_ : ds.length = 3) (h : g_boxF ds Q E) : tb_boxF (dE Q E) (startD N_boxF ds) := by
  obtain ⟨c, n, u, rfl, h1, h3, u1, u2, q⟩ := h
  have bu : bnd 100 u := bnd_of (by omega) (by omega)
  unfold tb_boxF dE
  walk_at "go"
  refine ⟨c, 2 * n, by rw [Int.natCast_mul]; rfl, by omega, fun X hX => ?_⟩
  walk_at "go"
  rw [Int.toNat_natCast, irg0]
  refine loop_ix (fun k ρ => ∃ (bs : List (Int × Int)) (s5 s6 : Sl), ρ = [.sh (.int c), .sh (.int n), .sh (.int u), .sh (.lst (tabD (2 * n) X)), .ow (bs.map pD), s5, s6] ∧ okBox k bs) _ ?_ ?_ ⟨[], _, _, rfl, rfl, fun b hb => nomatch hb⟩
  · rintro ρ ⟨bs, s5, s6, rfl, hb⟩
    rw [List.length_map, List.length_range] at hb
    walk_at "go"
    exact q bs hb
  · rintro k x ρ hx ⟨bs, s5, s6, rfl, hb⟩ N hN
    obtain ⟨hk, rfl⟩ := rng_inv hx
    walk_at "go"
    rw [show (2 * (k : Int)) = ((2 * k : Nat) : Int) by omega, atI_nn, tab_get (by omega)]
    walk_at "go"
    refine ⟨X (2 * k), 3, rfl, by decide, bnd_of (by decide) (by decide), fun r r1 r2 => ?_⟩
    have br : bnd 2 r := bnd_of (by omega) (by omega)
    walk_at "go"
    rw [show (2 * (k : Int) + 1) = ((2 * k + 1 : Nat) : Int) by omega, atI_nn, tab_get (by omega)]
    walk_at "go"
    have m1 := Int.fmod_nonneg_of_pos (X (2 * k + 1)) (show (0 : Int) < 4 by decide)
    have m2 := Int.fmod_lt_of_pos (X (2 * k + 1)) (show (0 : Int) < 4 by decide)
    have bm : bnd 2 ((X (2 * k + 1)).fmod 4) := bnd_of (by omega) (by omega)
    have v := two ((X (2 * k + 1)).fdiv 4)
    refine ⟨mul_of bm bu (by decide), ?_⟩
    walk_at "go"
    rw [show (2 * (k : Int) + 1) = ((2 * k + 1 : Nat) : Int) by omega, atI_nn, tab_get (by omega)]
    walk_at "go"
    generalize (X (2 * k + 1)).fmod 4 = m at *
    generalize ((X (2 * k + 1)).fdiv 4).fmod 2 = w at *
    have b1 : bnd 102 (r * u) := bnd_mul br bu
    have b2 : bnd 102 (m * u) := bnd_mul bm bu
    have b3 : bnd 104 (r * u + m * u + w) := bnd_mono (bnd_add (bnd_add b1 b2) (bnd_mono (k := 103) (show bnd 1 w from bnd_of (by omega) (by omega)) (by decide))) (by decide)
    refine ⟨few_of (by rw [List.length_append, List.length_map, hb.1, List.length_singleton]; omega), ?_⟩
    refine hN _ ⟨bs ++ [(r * u, r * u + m * u + w)], .sh (.int k), .sh (.int (r * u)), ?_, by rw [List.length_append, hb.1]; rfl, fun b hb' => ?_⟩
    · rw [List.map_append]; rfl
    · rcases List.mem_append.mp hb' with hb' | hb'
      · exact hb.2 b hb'
      · rw [List.mem_singleton.mp hb']
        have := Int.mul_nonneg m1 (show 0 ≤ u by omega)
        refine ⟨?_, bnd_mono b1 (by decide), b3⟩
        show r * u ≤ r * u + m * u + w
        omega
def kInt1 : KC := k1c fun d Q => match d with
  | .int i => Q (.int i)
  | .bl k => Q (.int (if k then 1 else 0))
  | _ => False
def unitI (n i : Nat) (s : Int) : List Int := (List.range n).map fun j => if j = i then s else 0
/-- a box's rows -/
def boxL (bs : List (Int × Int)) : Nat → List Rw
  | 0 => []
  | k + 1 => boxL bs k ++ [(unitI bs.length k 1, (bs.getD k (0, 0)).2), (unitI bs.length k (-1), 0 - (bs.getD k (0, 0)).1)]
def boxR (bs : List (Int × Int)) : List Rw := boxL bs bs.length
theorem boxL_len (bs : List (Int × Int)) : ∀ k, (boxL bs k).length = 2 * k
  | 0 => rfl
  | k + 1 => by
    unfold boxL
    rw [List.length_append, boxL_len bs k]
    show 2 * k + 2 = _
    omega
theorem unitI_len (n i : Nat) (s : Int) : (unitI n i s).length = n := by unfold unitI; rw [List.length_map, List.length_range]
abbrev g_boxRows : DF := fun ds Q _ => ∃ bs : List (Int × Int), ds = [.lst (bs.map pD)] ∧ bs.length ≤ 10 ∧ Q (.lst ((boxR bs).map rowT))
abbrev N_boxRows : List Str := ["_law_box_here", "_law_rows_here", "_law_i", "_law_ones", "_law_j", "_law_one"]
def tb_boxRows : DS :=
  (dSq (dOwn 1 (dLstN dNil)) (dSq (dFor (dRng1 (dCB kLen (dCons (dVarP 0) dNil))) (gNm 2) (dSq (dSet 3 (dLc (dRng1 (dCB kLen (dCons (dVarP 0) dNil))) (gNm 4) dYes (dCB kInt1 (dCons (dOp kEq (dVarP 4) (dVarP 2)) dNil)) [4])) (dSq (dApp 1 (dCB kTuple (dCons (dOp kAdd (dVarP 3) (dLst (dCons (dOp kIx (dOp kIx (dVarP 0) (dVarP 2)) (dC (.int 1))) dNil))) dNil))) (dApp 1 (dCB kTuple (dCons (dOp kAdd (dFz (dLcN (dSeq (dVar 3)) (gNm 5) dYes (dOp kSub (dC (.int 0)) (dVarP 5)) [5])) (dLst (dCons (dOp kSub (dC (.int 0)) (dOp kIx (dOp kIx (dVarP 0) (dVarP 2)) (dC (.int 0)))) dNil))) dNil)))))) (dFrz 1 (dRet (dVar 1)))))
theorem rd_boxRows (ds : List D) (Q E : EQ) (_ : ds.length = 1) (h : g_boxRows ds Q E) : tb_boxRows (dE Q E) (startD N_boxRows ds) := by
  obtain ⟨bs, rfl, hl, q⟩ := h
  unfold tb_boxRows dE
  walk_at "go"
  rw [List.length_map]
  refine ⟨by omega, by omega, ?_⟩
  rw [Int.toNat_natCast, irg0]
  refine loop_ix (fun k ρ => ∃ (s2 s3 s4 s5 : Sl), ρ = [.sh (.lst (bs.map pD)), .ow ((boxL bs k).map rowT), s2, s3, s4, s5]) _ ?_ ?_ ⟨_, _, _, _, rfl⟩
  · rintro ρ ⟨s2, s3, s4, s5, rfl⟩
    rw [List.length_map, List.length_range]
    walk_at "go"
    exact q
  · rintro k x ρ hx ⟨s2, s3, s4, s5, rfl⟩ N hN
    obtain ⟨hk, rfl⟩ := rng_inv hx
    have gb : atI (bs.map pD) (k : Int) = some (.tup [.int (bs.getD k (0, 0)).1, .int (bs.getD k (0, 0)).2]) := by
      rw [atI_nn, List.getElem?_map, List.getD_eq_getElem?_getD, List.getElem?_eq_getElem hk]
      rfl
    have uu : ∀ t : Int, (List.range bs.length).map (fun j => D.int (if j = k then t else 0)) = (unitI bs.length k t).map .int := fun t => by
      unfold unitI
      rw [List.map_map]
      rfl
    have bl := boxL_len bs k
    generalize hB : boxL bs k = B at *
    walk_at "go"
    rw [List.length_map]
    refine ⟨by omega, by omega, ?_⟩
    rw [Int.toNat_natCast, irg0]
    refine compL_fun (fun j : Nat => D.int j) (fun j : Nat => D.int (if j = k then 1 else 0)) (List.range bs.length) (fun j hj K1 K0 hK => ?_) ?_
    · walk_at "rd"
      by_cases e : j = k
      · subst e
        rw [if_pos rfl] at hK
        rw [decide_eq_true rfl]
        exact hK
      · rw [if_neg e] at hK
        rw [decide_eq_false (show ¬ (j : Int) = (k : Int) by omega)]
        exact hK
    rw [uu]
    walk_at "go"
    rw [gb]
    walk_at "go"
    have ul := unitI_len bs.length k 1
    refine ⟨few_of (by rw [List.length_append, List.length_map, ul, List.length_singleton]; omega), ?_⟩
    walk_at "go"
    refine compL_fun D.int (fun x => .int (0 - x)) (unitI bs.length k 1) (fun x hx K1 K0 hK => ?_) ?_
    · walk_at "rd"
      exact hK
    walk_at "rd"
    rw [gb]
    walk_at "go"
    have e1 : D.tup ((unitI bs.length k 1).map .int ++ [D.int (bs.getD k (0, 0)).2]) = rowT (unitI bs.length k 1, (bs.getD k (0, 0)).2) := by
      unfold rowT; rw [List.map_append]; rfl
    have e2 : D.tup ((unitI bs.length k 1).map (fun x => D.int (0 - x)) ++ [D.int (0 - (bs.getD k (0, 0)).1)]) = rowT (unitI bs.length k (-1), 0 - (bs.getD k (0, 0)).1) := by
      unfold rowT
      rw [List.map_append]
      congr 2
      unfold unitI
      rw [List.map_map, List.map_map]
      exact List.map_congr_left fun j _ => by
        show D.int (0 - if j = k then 1 else 0) = D.int (if j = k then -1 else 0)
        split <;> rfl
    have e3 : (boxL bs (k + 1)).map rowT = B.map rowT ++ [rowT (unitI bs.length k 1, (bs.getD k (0, 0)).2)] ++ [rowT (unitI bs.length k (-1), 0 - (bs.getD k (0, 0)).1)] := by
      unfold boxL
      rw [hB, List.map_append, List.append_assoc]
      rfl
    rw [e1, e2, ← e3]
    exact hN _ ⟨_, _, _, _, rfl⟩
/-- rows of a box hold a point of it -/
theorem boxL_mem {bs : List (Int × Int)} {r : Rw} : ∀ {k : Nat}, k ≤ bs.length → (r ∈ boxL bs k ↔ ∃ i, i < k ∧ (r = (unitI bs.length i 1, (bs.getD i (0, 0)).2) ∨ r = (unitI bs.length i (-1), 0 - (bs.getD i (0, 0)).1)))
  | 0, _ => by
    unfold boxL
    constructor
    · intro h; cases h
    · rintro ⟨i, hi, _⟩; omega
  | k + 1, h => by
    unfold boxL
    rw [List.mem_append, boxL_mem (k := k) (by omega)]
    constructor
    · rintro (⟨i, hi, h⟩ | h)
      · exact ⟨i, by omega, h⟩
      · refine ⟨k, by omega, ?_⟩
        rcases List.mem_cons.mp h with h | h
        · exact .inl h
        · exact .inr (List.mem_singleton.mp h)
    · rintro ⟨i, hi, hh⟩
      by_cases e : i = k
      · subst e
        right
        rcases hh with hh | hh
        · rw [hh]; exact List.mem_cons_self
        · rw [hh]; exact List.mem_cons_of_mem _ List.mem_cons_self
      · exact .inl ⟨i, by omega, hh⟩
theorem boxR_ok {n : Nat} {bs : List (Int × Int)} (h : okBox n bs) : ∀ r ∈ boxR bs, r.1.length = n ∧ okR 104 r.1 ∧ bnd 104 r.2 := fun r hr => by
  obtain ⟨h1, h2⟩ := h
  obtain ⟨i, hi, e⟩ := (boxL_mem (Nat.le_refl _)).mp hr
  have hb := h2 (bs.getD i (0, 0)) (by rw [List.getD_eq_getElem?_getD, List.getElem?_eq_getElem hi]; exact List.getElem_mem hi)
  have uo : ∀ s : Int, s.natAbs ≤ 1 → okR 104 (unitI bs.length i s) := fun s hs x hx => by
    unfold unitI at hx
    obtain ⟨j, _, rfl⟩ := List.mem_map.mp hx
    split
    · exact bnd_le (y := 1) hs (bnd_one (by decide))
    · exact bnd_zero
  rcases e with rfl | rfl
  · exact ⟨(unitI_len _ _ _).trans h1, uo 1 (by decide), hb.2.2⟩
  · exact ⟨(unitI_len _ _ _).trans h1, uo (-1) (by decide), bnd_le (by omega) hb.2.1⟩
end Dl

/-! The D-layer, part 44: modes and things drawn. -/
namespace Dl
open PySem PySem.Spec
open PyProof.Rows L2
local macro_rules | `(tactic| walk_at "rd") => `(tactic| ((conv => whnf); (try dsimp only [startD, wipeD, q_map_cons, q_map_nil, q_app_cons, q_app_nil, q_len_cons, q_len_nil, q_rep_0, q_rep_s, q_get_0, q_get_s, q_set_0, q_set_s, ifP_t, ifP_f, Nat.reduceAdd, Nat.reduceSub, Int.reduceToNat, Int.reducePow, Int.reduceAdd, Int.reduceMul])))
local macro_rules | `(tactic| walk_at "bx") => `(tactic| first | with_reducible assumption | (apply bnd_mul <;> walk_at "bx") | (apply bnd_addM <;> walk_at "bx") | (apply bnd_subM <;> walk_at "bx") | (apply bnd_negM <;> walk_at "bx") | exact bnd_lit (k := 8) (by decide) | exact bnd_lit (k := 64) (by decide) | (with_reducible (apply_assumption)))
local macro_rules | `(tactic| walk_at "bd") => `(tactic| first | with_reducible assumption | (apply bnd_mono; (walk_at "bx"); first | omega | decide))
local macro_rules | `(tactic| walk_at "sd") => `(tactic| first | with_reducible assumption | omega | with_reducible rfl | exact (rfl : (_ : Bool) = true) | exact (rfl : @Eq (Option D) _ none) | decide | exact few_of (by decide) | exact divOk_small (by decide) (by decide +kernel) | exact mulOk_r (by omega) (by omega) | exact mulOk_l (by omega) (by omega) | ((with_reducible apply mul_of); (walk_at "bx"); (walk_at "bx"); first | omega | decide) | exact few_of (by simp only [List.length_append, List.length_map, List.length_cons, List.length_nil, tab_len, List.length_replicate]; omega))
local macro_rules | `(tactic| walk_at "go") => `(tactic| ((try walk_at "rd"); (repeat (refine And.intro (by walk_at "sd") ?_; try walk_at "rd"))))
theorem lstL_snoc (k w : Nat) (R : Mat) (r : Nat → Int) : lstL k w R ++ [.lst (tabD w r)] = lstL (k + 1) w fun i => if i = k then r else R i := by
  unfold lstL
  rw [List.range_succ, List.map_append]
  congr 1
  · refine rng_congr fun i hi => ?_
    dsimp only
    rw [if_neg (by omega)]
  · show _ = [D.lst (tabD w (if k = k then r else R k))]
    rw [if_pos rfl]
theorem rep_tab (n : Nat) (x : Int) : (List.replicate n [D.int x]).flatten = tabD n fun _ => x := by
  rw [List.flatten_replicate_singleton]
  unfold tabD
  rw [List.map_const', List.length_range]
/-- a mode as the laws draw it: rows, lists, steering nought -/
def modeT (n p : Nat) (m : Md) : D := .tup [.lst (m.rows.map (rowW (n + 1))), .lst (lstL n n m.nexts), .lst (tabD n m.steer), .lst (lstL n p m.push), .lst (tabD n m.add), .int m.div]
structure okSM (m : Md) : Prop where
  nexts : ∀ i j, bnd 3 (m.nexts i j)
  push : ∀ i j, bnd 2 (m.push i j)
  add : ∀ i, bnd 103 (m.add i)
  div : 2 ≤ m.div ∧ m.div ≤ 5
  steer : m.steer = fun _ => 0
  rows : ∀ r ∈ m.rows, ∀ j, bnd 103 (r j)
abbrev g_modeF : DF := fun ds Q _ => ∃ (c : Int) (n p : Nat) (u : Int) (sp : Bool), ds = [.int c, .int n, .int p, .int u, .bl sp] ∧ 1 ≤ n ∧ n ≤ 3 ∧ p ≤ 2 ∧ 1 ≤ u ∧ u ≤ 10 ^ 30 ∧
  ∀ m : Md, okSM m → ((sp = false ∧ m.rows = []) ∨ (sp = true ∧ ∃ r, m.rows = [r])) → Q (modeT n p m)
abbrev N_modeF : List Str := ["_law_cell", "_law_many", "_law_wide", "_law_unit", "_law_split", "_law_xs", "_law_divisor_here", "_law_nexts", "_law_push", "_law_i", "_law_j", "_law_add", "_law_rows_here", "_law_row"]
def tb_modeF : DS :=
  (dSq (dSet 5 (dCall 2 [] g__law_stream (dCons (dVar 0) (dCons (dC (.int 24)) dNil)))) (dSq (dSet 6 (dOp kAdd (dC (.int 2)) (dOp kMod (dOp kIx (dVarP 5) (dC (.int 0))) (dC (.int 4))))) (dSq (dOwn 7 (dLstN dNil)) (dSq (dOwn 8 (dLstN dNil)) (dSq (dFor (dRng1 (dVarP 1)) (gNm 9) (dSq (dApp 7 (dFz (dLcN (dRng1 (dVarP 1)) (gNm 10) dYes (dCall 2 [] g_numF (dCons (dOp kIx (dVarP 5) (dOp kAdd (dOp kAdd (dC (.int 1)) (dOp kMul (dC (.int 3)) (dVarP 9))) (dVarP 10))) (dCons (dOp kIx (dLst (dCons (dC (.int 1)) (dCons (dOp kSub (dVarP 6) (dC (.int 1))) dNil))) (dCB kInt1 (dCons (dOp kEq (dVarP 9) (dVarP 10)) dNil))) dNil))) [10]))) (dApp 8 (dFz (dLcN (dRng1 (dVarP 2)) (gNm 10) dYes (dCall 2 [] g_numF (dCons (dOp kIx (dVarP 5) (dOp kAdd (dOp kAdd (dC (.int 10)) (dOp kMul (dC (.int 2)) (dVarP 9))) (dVarP 10))) (dCons (dC (.int 2)) dNil))) [10]))))) (dSq (dSet 11 (dLc (dRng1 (dVarP 1)) (gNm 9) dYes (dOp kMul (dCall 2 [] g_numF (dCons (dOp kIx (dVarP 5) (dOp kAdd (dC (.int 16)) (dVarP 9))) (dCons (dC (.int 2)) dNil))) (dOp kMod (dOp kIx (dVarP 5) (dC (.int 19))) (dVarP 3))) [9])) (dSq (dOwn 12 (dLstN dNil)) (dSq (dIf (dTest (dVarP 4)) (dSq (dSet 13 (dLc (dRng1 (dVarP 1)) (gNm 9) dYes (dCall 2 [] g_numF (dCons (dOp kIx (dVarP 5) (dOp kAdd (dC (.int 20)) (dVarP 9))) (dCons (dC (.int 1)) dNil))) [9])) (dApp 12 (dCB kTuple (dCons (dOp kAdd (dVarP 13) (dLst (dCons (dOp kMul (dCall 2 [] g_numF (dCons (dOp kIx (dVarP 5) (dC (.int 23))) (dCons (dC (.int 3)) dNil))) (dVarP 3)) dNil))) dNil)))) dNext) (dFrz 12 (dFrz 8 (dFrz 7 (dRet (dTup (dCons (dVar 12) (dCons (dVar 7) (dCons (dOp kMul (dLst (dCons (dC (.int 0)) dNil)) (dVarP 1)) (dCons (dVar 8) (dCons (dVar 11) (dCons (dVar 6) dNil)))))))))))))))))))
theorem rd_modeF (ds : List D) (Q E : EQ) (_ : ds.length = 5) (h : g_modeF ds Q E) : tb_modeF (dE Q E) (startD N_modeF ds) := by
  obtain ⟨c, n, p, u, sp, rfl, h1, h3, hp, u1, u2, q⟩ := h
  have bu : bnd 100 u := bnd_of (by omega) (by omega)
  unfold tb_modeF dE
  walk_at "go"
  refine ⟨c, 24, rfl, by decide, fun X hX => ?_⟩
  have hat : ∀ k : Nat, k < 24 → atI (tabD 24 X) (k : Int) = some (.int (X k)) := fun k hk => by rw [atI_nn, tab_get hk]
  walk_at "go"
  have m1 := Int.fmod_nonneg_of_pos (X 0) (show (0 : Int) < 4 by decide)
  have m2 := Int.fmod_lt_of_pos (X 0) (show (0 : Int) < 4 by decide)
  obtain ⟨dv, hdv⟩ : ∃ dv, 2 + (X 0).fmod 4 = dv := ⟨_, rfl⟩
  rw [hdv]
  rw [Int.toNat_natCast, irg0]
  refine loop_ix (fun k ρ => ∃ (A B : Mat) (s9 s10 : Sl), ρ = [.sh (.int c), .sh (.int n), .sh (.int p), .sh (.int u), .sh (.bl sp), .sh (.lst (tabD 24 X)), .sh (.int dv), .ow (lstL k n A), .ow (lstL k p B), s9, s10, .no, .no, .no] ∧
    (∀ i j, bnd 3 (A i j)) ∧ ∀ i j, bnd 2 (B i j)) _ ?_ ?_ ⟨fun _ _ => 0, fun _ _ => 0, _, _, rfl, fun _ _ => bnd_zero, fun _ _ => bnd_zero⟩
  case refine_2 =>
    rintro k x ρ hx ⟨A, B, s9, s10, rfl, hA, hB⟩ N hN
    obtain ⟨hk, rfl⟩ := rng_inv hx
    walk_at "go"
    rw [Int.toNat_natCast, irg0]
    refine compL_gen D.int (bnd 3) _ (fun e he K1 K0 hK => ?_) fun ys yl yb => ?_
    · obtain ⟨j, hj, rfl⟩ := List.mem_map.mp he
      have hj := List.mem_range.mp hj
      walk_at "go"
      rw [show (1 + 3 * (k : Int) + (j : Int)) = ((1 + 3 * k + j : Nat) : Int) by omega, hat _ (by omega)]
      walk_at "go"
      obtain ⟨w, hw, w1, w4⟩ : ∃ w : Int, atI [D.int 1, D.int (dv - 1)] (if decide ((k : Int) = (j : Int)) = true then 1 else 0) = some (.int w) ∧ 0 ≤ w ∧ w ≤ 4 := by
        by_cases e : (k : Int) = (j : Int)
        · rw [decide_eq_true e]; exact ⟨dv - 1, rfl, by omega, by omega⟩
        · rw [decide_eq_false e]; exact ⟨1, rfl, by decide, by decide⟩
      rw [hw]
      walk_at "rd"
      refine ⟨rfl, X (1 + 3 * k + j), w, rfl, w1, bnd_of (by omega) (by omega), fun r r1 r2 => ?_⟩
      exact hK r (bnd_of (by omega) (by omega))
    rw [List.length_map, List.length_range] at yl
    walk_at "go"
    refine ⟨few_of (by rw [List.length_append, List.length_singleton]; unfold lstL; rw [List.length_map, List.length_range]; omega), ?_⟩
    walk_at "go"
    rw [Int.toNat_natCast, irg0]
    refine compL_gen D.int (bnd 2) _ (fun e he K1 K0 hK => ?_) fun zs zl zb => ?_
    · obtain ⟨j, hj, rfl⟩ := List.mem_map.mp he
      have hj := List.mem_range.mp hj
      walk_at "go"
      rw [show (10 + 2 * (k : Int) + (j : Int)) = ((10 + 2 * k + j : Nat) : Int) by omega, hat _ (by omega)]
      walk_at "go"
      refine ⟨X (10 + 2 * k + j), 2, rfl, by decide, bnd_of (by decide) (by decide), fun r r1 r2 => ?_⟩
      exact hK r (bnd_of (by omega) (by omega))
    rw [List.length_map, List.length_range] at zl
    walk_at "go"
    refine ⟨few_of (by rw [List.length_append, List.length_singleton]; unfold lstL; rw [List.length_map, List.length_range]; omega), ?_⟩
    rw [tab_list, yl, tab_list, zl, lstL_snoc, lstL_snoc]
    refine hN _ ⟨_, _, _, _, rfl, fun i j => ?_, fun i j => ?_⟩
    · split
      · exact fL_bnd yb j
      · exact hA i j
    · split
      · exact fL_bnd zb j
      · exact hB i j
  · rintro ρ ⟨A, B, s9, s10, rfl, hA, hB⟩
    rw [List.length_map, List.length_range]
    walk_at "go"
    rw [Int.toNat_natCast, irg0]
    refine compL_gen D.int (bnd 103) _ (fun e he K1 K0 hK => ?_) fun as al ab => ?_
    · obtain ⟨j, hj, rfl⟩ := List.mem_map.mp he
      have hj := List.mem_range.mp hj
      walk_at "go"
      rw [show (16 + (j : Int)) = ((16 + j : Nat) : Int) by omega, hat _ (by omega)]
      walk_at "go"
      refine ⟨X (16 + j), 2, rfl, by decide, bnd_of (by decide) (by decide), fun r r1 r2 => ?_⟩
      have br : bnd 2 r := bnd_of (by omega) (by omega)
      walk_at "go"
      have f1 := Int.fmod_nonneg_of_pos (X 19) (show 0 < u by omega)
      have f2 := Int.fmod_lt_of_pos (X 19) (show 0 < u by omega)
      have bf : bnd 101 ((X 19).fmod u) := bnd_of (by omega) (by omega)
      exact hK _ (bnd_mul br bf)
    rw [List.length_map, List.length_range] at al
    walk_at "go"
    rw [tab_list, al]
    have hd : 2 ≤ dv ∧ dv ≤ 5 := ⟨by omega, by omega⟩
    have fin : ∀ rs : List (Nat → Int), ((sp = false ∧ rs = []) ∨ (sp = true ∧ ∃ r, rs = [r])) → (∀ r ∈ rs, ∀ j, bnd 103 (r j)) →
        Q (.tup [.lst (rs.map (rowW (n + 1))), .lst (lstL n n A), .lst (tabD n fun _ => 0), .lst (lstL n p B), .lst (tabD n (fL as)), .int dv]) := fun rs hrs hb =>
      q ⟨rs, A, fun _ => 0, B, fL as, dv⟩ ⟨hA, hB, fL_bnd ab, hd, rfl, hb⟩ hrs
    cases sp with
    | false =>
      walk_at "go"
      rw [rep0]
      refine ⟨few_of (by rw [tab_len]; omega), ?_⟩
      walk_at "go"
      exact fin [] (.inl ⟨rfl, rfl⟩) (fun r hr => nomatch hr)
    | true =>
      walk_at "go"
      rw [Int.toNat_natCast, irg0]
      refine compL_gen D.int (bnd 1) _ (fun e he K1 K0 hK => ?_) fun ws wl wb => ?_
      · obtain ⟨j, hj, rfl⟩ := List.mem_map.mp he
        have hj := List.mem_range.mp hj
        walk_at "go"
        rw [show (20 + (j : Int)) = ((20 + j : Nat) : Int) by omega, hat _ (by omega)]
        walk_at "go"
        refine ⟨X (20 + j), 1, rfl, by decide, bnd_of (by decide) (by decide), fun r r1 r2 => ?_⟩
        exact hK r (bnd_of (by omega) (by omega))
      rw [List.length_map, List.length_range] at wl
      walk_at "go"
      refine ⟨X 23, 3, rfl, by decide, bnd_of (by decide) (by decide), fun r r1 r2 => ?_⟩
      have br : bnd 2 r := bnd_of (by omega) (by omega)
      walk_at "go"
      rw [rep0]
      refine ⟨few_of (by rw [tab_len]; omega), ?_⟩
      walk_at "go"
      have er : D.tup (ws.map .int ++ [.int (r * u)]) = rowW (n + 1) (fL (ws ++ [r * u])) := by
        have := rowW_list (ws ++ [r * u])
        rw [List.length_append, wl, List.length_singleton, List.map_append] at this
        exact this.symm
      rw [er]
      refine fin [fL (ws ++ [r * u])] (.inr ⟨rfl, _, rfl⟩) fun x hx j => ?_
      rw [List.mem_singleton.mp hx]
      exact fL_bnd (okR_snoc (ok_mono wb (by decide)) (bnd_mono (bnd_mul br bu) (by decide))) j
/-! ### things drawn -/
def specT (n : Nat) (ps : List (Int × Int)) (ms : List Md) (u : Int) : D := .tup [.int n, .lst (ps.map pD), .lst (ms.map (modeT n ps.length)), .int u]
structure okSpec (n : Nat) (ps : List (Int × Int)) (ms : List Md) (u : Int) : Prop where
  n1 : 1 ≤ n
  n3 : n ≤ 3
  pl : ps.length ≤ 2
  pb : ∀ p ∈ ps, p.1 ≤ 0 ∧ 0 ≤ p.2 ∧ bnd 103 p.1 ∧ bnd 103 p.2
  ml : 1 ≤ ms.length ∧ ms.length ≤ 3
  mo : ∀ m ∈ ms, okSM m
  sp : (∀ m ∈ ms, m.rows = []) ∨ ∀ m ∈ ms, ∃ r, m.rows = [r]
  u1 : 1 ≤ u
  u2 : u ≤ 10 ^ 30
abbrev g_thingF : DF := fun ds Q _ => ∃ a : List Int, ds = [.frl (a.map .int)] ∧ ∀ (n : Nat) (ps : List (Int × Int)) (ms : List Md) (u : Int), okSpec n ps ms u → Q (specT n ps ms u)
abbrev N_thingF : List Str := ["_law_script", "_law_first", "_law_second", "_law_unit", "_law_many", "_law_pushes", "_law_k", "_law_x", "_law_modes", "_law_cell"]
def tb_thingF : DS :=
  (dSq (dSet 1 (dCall 2 [] g__law_cell_at (dCons (dVar 0) (dCons (dC (.int 0)) dNil)))) (dSq (dSet 2 (dCall 2 [] g__law_cell_at (dCons (dVar 0) (dCons (dC (.int 1)) dNil)))) (dSq (dSet 3 (dOp kAdd (dC (.int 1)) (dOp kMod (dOp kDiv (dVarP 1) (dC (.int 4))) (dOp kIx (dLst (dCons (dC (.int 3)) (dCons (dC (.int 9)) (dCons (dOp kPow (dC (.int 10)) (dC (.int 15))) (dCons (dOp kPow (dC (.int 10)) (dC (.int 30))) dNil))))) (dOp kMod (dVarP 1) (dC (.int 4))))))) (dSq (dSet 4 (dOp kIx (dLst (dCons (dC (.int 1)) (dCons (dC (.int 2)) (dCons (dC (.int 2)) (dCons (dC (.int 1)) (dCons (dC (.int 3)) (dCons (dC (.int 2)) dNil))))))) (dOp kMod (dVarP 2) (dC (.int 6))))) (dSq (dOwn 5 (dLstN dNil)) (dSq (dFor (dRng1 (dOp kMod (dOp kDiv (dVarP 2) (dC (.int 6))) (dC (.int 3)))) (gNm 6) (dSq (dSet 7 (dOp kDiv (dVarP 2) (dOp kAdd (dC (.int 18)) (dOp kMul (dC (.int 11)) (dVarP 6))))) (dApp 5 (dTup (dCons (dOp kSub (dC (.int 0)) (dOp kMul (dOp kMod (dVarP 7) (dC (.int 3))) (dVarP 3))) (dCons (dOp kMul (dOp kMod (dOp kDiv (dVarP 7) (dC (.int 3))) (dC (.int 3))) (dVarP 3)) dNil)))))) (dSq (dOwn 8 (dLstN dNil)) (dSq (dFor (dRng1 (dOp kAdd (dC (.int 1)) (dOp kMod (dOp kDiv (dVarP 2) (dC (.int 54))) (dC (.int 3))))) (gNm 6) (dSq (dSet 9 (dOp kAdd (dCall 2 [] g__law_cell_at (dCons (dVar 0) (dCons (dOp kAdd (dC (.int 2)) (dVarP 6)) dNil))) (dVarP 6))) (dApp 8 (dCall 5 [] g_modeF (dCons (dVar 9) (dCons (dVar 4) (dCons (dCB kLen (dCons (dVarP 5) dNil)) (dCons (dVar 3) (dCons (dOp kEq (dOp kMod (dOp kDiv (dVarP 2) (dC (.int 162))) (dC (.int 2))) (dC (.int 1))) dNil))))))))) (dFrz 5 (dFrz 8 (dRet (dTup (dCons (dVar 4) (dCons (dVar 5) (dCons (dVar 8) (dCons (dVar 3) dNil))))))))))))))))
theorem pick6 (x : Int) : ∃ n : Nat, atI [D.int 1, D.int 2, D.int 2, D.int 1, D.int 3, D.int 2] (x.fmod 6) = some (.int n) ∧ 1 ≤ n ∧ n ≤ 3 := by
  obtain ⟨y, hm, h⟩ := pick [D.int 1, D.int 2, D.int 2, D.int 1, D.int 3, D.int 2] 6 x rfl (by decide)
  rcases List.mem_cons.mp hm with rfl | hm
  · exact ⟨1, h, by decide, by decide⟩
  rcases List.mem_cons.mp hm with rfl | hm
  · exact ⟨2, h, by decide, by decide⟩
  rcases List.mem_cons.mp hm with rfl | hm
  · exact ⟨2, h, by decide, by decide⟩
  rcases List.mem_cons.mp hm with rfl | hm
  · exact ⟨1, h, by decide, by decide⟩
  rcases List.mem_cons.mp hm with rfl | hm
  · exact ⟨3, h, by decide, by decide⟩
  rw [List.mem_singleton.mp hm] at h
  exact ⟨2, h, by decide, by decide⟩
theorem rd_thingF (ds : List D) (Q E : EQ) (_ : ds.length = 1) (h : g_thingF ds Q E) : tb_thingF (dE Q E) (startD N_thingF ds) := by
  obtain ⟨a, rfl, q⟩ := h
  unfold tb_thingF dE
  walk_at "go"
  refine ⟨a, 0, rfl, ?_⟩
  walk_at "go"
  refine ⟨a, 1, rfl, ?_⟩
  walk_at "go"
  obtain ⟨y, hy, hc⟩ := pick4' 3 9 1000000000000000 1000000000000000000000000000000 (a.getD 0 0)
  rw [hy]
  have y0 : 0 < y := by omega
  have y1 : y ≤ 10 ^ 30 := by omega
  have f1 := Int.fmod_nonneg_of_pos ((a.getD 0 0).fdiv 4) y0
  have f2 := Int.fmod_lt_of_pos ((a.getD 0 0).fdiv 4) y0
  obtain ⟨u, hu⟩ : ∃ u, 1 + ((a.getD 0 0).fdiv 4).fmod y = u := ⟨_, rfl⟩
  have u1 : 1 ≤ u := by omega
  have u2 : u ≤ 10 ^ 30 := by omega
  have bu : bnd 100 u := bnd_of (by omega) (by omega)
  walk_at "go"
  rw [hu]
  walk_at "go"
  obtain ⟨n, hn, n1, n3⟩ := pick6 (a.getD 1 0)
  rw [hn]
  walk_at "go"
  have w1 := Int.fmod_nonneg_of_pos ((a.getD 1 0).fdiv 6) (show (0 : Int) < 3 by decide)
  have w2 := Int.fmod_lt_of_pos ((a.getD 1 0).fdiv 6) (show (0 : Int) < 3 by decide)
  obtain ⟨w, hw⟩ := Int.eq_ofNat_of_zero_le w1
  rw [hw]
  refine ⟨by omega, by omega, ?_⟩
  rw [Int.toNat_natCast, irg0]
  obtain ⟨f0, hf0⟩ : ∃ f, a.getD 0 0 = f := ⟨_, rfl⟩
  obtain ⟨g0, hg0⟩ : ∃ f, a.getD 1 0 = f := ⟨_, rfl⟩
  rw [hf0, hg0]
  refine loop_ix (fun k ρ => ∃ (ps : List (Int × Int)) (s6 s7 : Sl), ρ = [.sh (.frl (a.map .int)), .sh (.int f0), .sh (.int g0), .sh (.int u), .sh (.int n), .ow (ps.map pD), s6, s7, .no, .no] ∧ ps.length = k ∧
    ∀ p ∈ ps, p.1 ≤ 0 ∧ 0 ≤ p.2 ∧ bnd 103 p.1 ∧ bnd 103 p.2) _ ?_ ?_ ⟨[], _, _, rfl, rfl, fun p hp => nomatch hp⟩
  case refine_2 =>
    rintro k x ρ hx ⟨ps, s6, s7, rfl, hl, hb⟩ N hN
    obtain ⟨hk, rfl⟩ := rng_inv hx
    have dv : divOk (18 + 11 * (k : Int)) := div_of (by omega) (bnd_mono (show bnd 7 (18 + 11 * (k : Int)) from bnd_of (by omega) (by omega)) (by decide))
    walk_at "go"
    obtain ⟨x, hx⟩ : ∃ x, g0.fdiv (18 + 11 * (k : Int)) = x := ⟨_, rfl⟩
    rw [hx]
    have c1 := Int.fmod_nonneg_of_pos x (show (0 : Int) < 3 by decide)
    have c2 := Int.fmod_lt_of_pos x (show (0 : Int) < 3 by decide)
    have d1 := Int.fmod_nonneg_of_pos (x.fdiv 3) (show (0 : Int) < 3 by decide)
    have d2 := Int.fmod_lt_of_pos (x.fdiv 3) (show (0 : Int) < 3 by decide)
    have b1 : bnd 2 (x.fmod 3) := bnd_of (by omega) (by omega)
    have b2 : bnd 2 ((x.fdiv 3).fmod 3) := bnd_of (by omega) (by omega)
    walk_at "go"
    have n1' := Int.mul_nonneg c1 (show 0 ≤ u by omega)
    have n2' := Int.mul_nonneg d1 (show 0 ≤ u by omega)
    have e1 : bnd 102 (x.fmod 3 * u) := bnd_mul b1 bu
    have e2 : bnd 102 ((x.fdiv 3).fmod 3 * u) := bnd_mul b2 bu
    have ep : ps.map pD ++ [D.tup [D.int (0 - x.fmod 3 * u), D.int ((x.fdiv 3).fmod 3 * u)]] = (ps ++ [(0 - x.fmod 3 * u, (x.fdiv 3).fmod 3 * u)]).map pD := by
      rw [List.map_append]; rfl
    rw [ep]
    refine hN _ ⟨_, _, _, rfl, by rw [List.length_append, hl]; rfl, fun p hp => ?_⟩
    rcases List.mem_append.mp hp with hp | hp
    · exact hb p hp
    · rw [List.mem_singleton.mp hp]
      exact ⟨by show 0 - x.fmod 3 * u ≤ 0; omega, n2', bnd_le (y := x.fmod 3 * u) (by show (0 - x.fmod 3 * u).natAbs ≤ _; omega) (bnd_mono e1 (by decide)), bnd_mono e2 (by decide)⟩
  rintro ρ ⟨ps, s6, s7, rfl, hl, hb⟩
  rw [List.length_map, List.length_range] at hl
  walk_at "go"
  have v1 := Int.fmod_nonneg_of_pos (g0.fdiv 54) (show (0 : Int) < 3 by decide)
  have v2 := Int.fmod_lt_of_pos (g0.fdiv 54) (show (0 : Int) < 3 by decide)
  obtain ⟨v, hv⟩ := Int.eq_ofNat_of_zero_le (show 0 ≤ 1 + (g0.fdiv 54).fmod 3 by omega)
  rw [hv]
  walk_at "go"
  rw [Int.toNat_natCast, irg0]
  refine loop_ix (fun k ρ => ∃ (ms : List Md) (s6 s9 : Sl), ρ = [.sh (.frl (a.map .int)), .sh (.int f0), .sh (.int g0), .sh (.int u), .sh (.int n), .ow (ps.map pD), s6, s7, .ow (ms.map (modeT n ps.length)), s9] ∧ ms.length = k ∧
    (∀ m ∈ ms, okSM m) ∧ ∀ m ∈ ms, (decide ((g0.fdiv 162).fmod 2 = 1) = false ∧ m.rows = []) ∨ (decide ((g0.fdiv 162).fmod 2 = 1) = true ∧ ∃ r, m.rows = [r])) _ ?_ ?_ ⟨[], _, _, rfl, rfl, (fun m hm => nomatch hm), (fun m hm => nomatch hm)⟩
  case refine_2 =>
    rintro k x ρ hx ⟨ms, s6, s9, rfl, hml, hm1, hm2⟩ N hN
    obtain ⟨hk, rfl⟩ := rng_inv hx
    walk_at "go"
    refine ⟨a, 2 + k, rfl, ?_⟩
    walk_at "go"
    rw [List.length_map]
    refine ⟨_, n, ps.length, u, _, rfl, n1, n3, by omega, u1, u2, fun m om mr => ?_⟩
    walk_at "go"
    have em : ms.map (modeT n ps.length) ++ [modeT n ps.length m] = (ms ++ [m]).map (modeT n ps.length) := by rw [List.map_append]; rfl
    rw [em]
    refine hN _ ⟨_, _, _, rfl, by rw [List.length_append, hml]; rfl, fun x hx => ?_, fun x hx => ?_⟩
    · rcases List.mem_append.mp hx with hx | hx
      · exact hm1 x hx
      · rw [List.mem_singleton.mp hx]; exact om
    · rcases List.mem_append.mp hx with hx | hx
      · exact hm2 x hx
      · rw [List.mem_singleton.mp hx]; exact mr
  rintro ρ ⟨ms, s6, s9, rfl, hml, hm1, hm2⟩
  rw [List.length_map, List.length_range] at hml
  walk_at "go"
  refine q n ps ms u ⟨n1, n3, by omega, hb, by omega, hm1, ?_, u1, u2⟩
  cases hz : decide ((g0.fdiv 162).fmod 2 = 1) with
  | false => exact .inl fun m hm => (hm2 m hm).elim (fun h => h.2) fun h => absurd (hz.symm.trans h.1) Bool.false_ne_true
  | true => exact .inr fun m hm => (hm2 m hm).elim (fun h => absurd (h.1.symm.trans hz) Bool.false_ne_true) fun h => h.2
end Dl

/-! The D-layer, part 45: right things made. -/
namespace Dl
open PySem PySem.Spec
open PyProof.Rows L2
local macro_rules | `(tactic| walk_at "rd") => `(tactic| ((conv => whnf); (try dsimp only [startD, wipeD, q_map_cons, q_map_nil, q_app_cons, q_app_nil, q_len_cons, q_len_nil, q_rep_0, q_rep_s, q_get_0, q_get_s, q_set_0, q_set_s, ifP_t, ifP_f, Nat.reduceAdd, Nat.reduceSub, Int.reduceToNat, Int.reducePow, Int.reduceAdd, Int.reduceMul])))
local macro_rules | `(tactic| walk_at "bx") => `(tactic| first | with_reducible assumption | (apply bnd_mul <;> walk_at "bx") | (apply bnd_addM <;> walk_at "bx") | (apply bnd_subM <;> walk_at "bx") | (apply bnd_negM <;> walk_at "bx") | exact bnd_lit (k := 8) (by decide) | exact bnd_lit (k := 64) (by decide) | (with_reducible (apply_assumption)))
local macro_rules | `(tactic| walk_at "bd") => `(tactic| first | with_reducible assumption | (apply bnd_mono; (walk_at "bx"); first | omega | decide))
local macro_rules | `(tactic| walk_at "sd") => `(tactic| first | with_reducible assumption | omega | with_reducible rfl | exact (rfl : (_ : Bool) = true) | exact (rfl : @Eq (Option D) _ none) | decide | exact few_of (by decide) | exact divOk_small (by decide) (by decide +kernel) | exact mulOk_r (by omega) (by omega) | exact mulOk_l (by omega) (by omega) | ((with_reducible apply mul_of); (walk_at "bx"); (walk_at "bx"); first | omega | decide) | exact few_of (by simp only [List.length_append, List.length_map, List.length_cons, List.length_nil, tab_len, List.length_replicate]; omega))
local macro_rules | `(tactic| walk_at "go") => `(tactic| ((try walk_at "rd"); (repeat (refine And.intro (by walk_at "sd") ?_; try walk_at "rd"))))
theorem pts_of (R : Int × Int → Prop) (as : List D) (k : Nat) (hk : as.length = k) (h : ∀ (i : Nat) (d : D), as[i]? = some d → ∃ y, R y ∧ d = prD y) : ∃ x : Nat → Int × Int, (∀ i, i < k → R (x i)) ∧ as = (List.range k).map fun i => prD (x i) := by
  have : ∀ i : Nat, ∃ y : Int × Int, i < k → R y ∧ as[i]? = some (prD y) := fun i => by
    by_cases hi : i < k
    · obtain ⟨y, h1, h2⟩ := h i _ (List.getElem?_eq_getElem (show i < as.length by omega))
      exact ⟨y, fun _ => ⟨h1, by rw [List.getElem?_eq_getElem (by omega), h2]⟩⟩
    · exact ⟨(0, 0), fun z => absurd z hi⟩
  refine ⟨fun i => Classical.choose (this i), fun i hi => (Classical.choose_spec (this i) hi).1, List.ext_getElem? fun i => ?_⟩
  by_cases hi : i < k
  · rw [rng_get hi]
    exact (Classical.choose_spec (this i) hi).2
  · rw [List.getElem?_eq_none (by omega), List.getElem?_eq_none (by rw [rng_len]; omega)]
theorem kn_lst (l : List D) : knD (.lst l) := ⟨(fun z => nomatch z), (fun _ z => nomatch z)⟩
theorem kn_int (z : Int) : knD (.int z) := ⟨(fun z => nomatch z), (fun _ z => nomatch z)⟩
theorem kn_tup (l : List D) : knD (.tup l) := ⟨(fun z => nomatch z), (fun _ z => nomatch z)⟩
theorem ko_tab (n : Nat) (r : Nat → Int) : ko (.lst (tabD n r)) := ⟨kn_lst _, fun xs e x hx => by cases e; obtain ⟨i, hi⟩ := List.getElem?_of_mem hx; rw [(tab_inv hi).2]; exact kn_int _⟩
theorem ko_lstL (n w : Nat) (R : Mat) : ko (.lst (lstL n w R)) := ⟨kn_lst _, fun xs e x hx => by cases e; obtain ⟨i, hi⟩ := List.getElem?_of_mem hx; rw [(rng_inv hi).2]; exact kn_lst _⟩
theorem ko_rows (w : Nat) (rs : List (Nat → Int)) : ko (.lst (rs.map (rowW w))) := ⟨kn_lst _, fun xs e x hx => by cases e; obtain ⟨r, _, rfl⟩ := List.mem_map.mp hx; exact kn_tup _⟩
theorem kw_tab (n : Nat) (r : Nat → Int) : kw (.lst (tabD n r)) := ⟨kn_lst _, fun xs e x hx => by
  have e : tabD n r = xs := by rcases e with e | e <;> cases e; rfl
  subst e
  obtain ⟨i, hi⟩ := List.getElem?_of_mem hx
  rw [(tab_inv hi).2]
  exact fun z => nomatch z⟩
theorem kw_row (n : Nat) (r : Nat → Int) : kw (rowW n r) := ⟨kn_tup _, fun xs e x hx => by
  have e : tabD n r = xs := by rcases e with e | e <;> cases e; rfl
  subst e
  obtain ⟨i, hi⟩ := List.getElem?_of_mem hx
  rw [(tab_inv hi).2]
  exact fun z => nomatch z⟩
theorem kws_rows (w : Nat) (rs : List (Nat → Int)) : kws (.lst (rs.map (rowW w))) := ⟨kn_lst _, fun xs e x hx => by cases e; obtain ⟨r, _, rfl⟩ := List.mem_map.mp hx; exact kw_row _ _⟩
theorem kws_lstL (n w : Nat) (R : Mat) : kws (.lst (lstL n w R)) := ⟨kn_lst _, fun xs e x hx => by cases e; obtain ⟨i, hi⟩ := List.getElem?_of_mem hx; rw [(rng_inv hi).2]; exact kw_tab _ _⟩
theorem wh_tab (n : Nat) (r : Nat → Int) : (tabD n r).all isWhB = true := by
  rw [List.all_eq_true]
  intro d hd
  obtain ⟨i, hi⟩ := List.getElem?_of_mem hd
  rw [(tab_inv hi).2]
  rfl
theorem aw_tab (n : Nat) (r : Nat → Int) : awB (.lst (tabD n r)) n = true := by
  show (decide (((tabD n r).length : Int) = (n : Int)) && (tabD n r).all isWhB) = true
  rw [tab_len, wh_tab, decide_eq_true rfl]
  rfl
theorem rw_row (n : Nat) (r : Nat → Int) : rwB (rowW (n + 1) r) n = true := by
  show (decide (((tabD (n + 1) r).length : Int) = (n : Int) + 1) && (tabD (n + 1) r).all isWhB) = true
  rw [tab_len, wh_tab, decide_eq_true (by omega)]
  rfl
theorem rm_rows (n : Nat) (rs : List (Nat → Int)) : rmB (.lst (rs.map (rowW (n + 1)))) n = true := by
  show (rs.map (rowW (n + 1))).all (fun r => rwB r n) = true
  rw [List.all_eq_true]
  intro d hd
  obtain ⟨r, _, rfl⟩ := List.mem_map.mp hd
  exact rw_row n r
theorem tb_lstL (n w : Nat) (R : Mat) : tbB (.lst (lstL n w R)) n w = true := by
  show (decide (((lstL n w R).length : Int) = (n : Int)) && (lstL n w R).all fun r => awB r w) = true
  rw [lstL_len, decide_eq_true rfl, Bool.true_and, List.all_eq_true]
  intro d hd
  obtain ⟨i, hi⟩ := List.getElem?_of_mem hd
  rw [(rng_inv hi).2]
  exact aw_tab w _
theorem kM_md (CM : Addr) (n p : Nat) (m : Md) : kM CM (mdI CM n p m) := .inl ⟨_, _, _, _, _, _, rfl, kws_rows _ _, kws_lstL _ _ _, kw_tab _ _, kws_lstL _ _ _, kw_tab _ _, fun z => nomatch z⟩
theorem mdB_md (CM : Addr) (n p : Nat) (m : Md) (hd : 1 ≤ m.div) : mdB CM (mdI CM n p m) n p = true := by
  show (decide (CM = CM) && (rmB (.lst (m.rows.map (rowW (n + 1)))) n && tbB (.lst (lstL n n m.nexts)) n n && awB (.lst (tabD n m.steer)) n && tbB (.lst (lstL n p m.push)) n p && awB (.lst (tabD n m.add)) n && dvB (.int m.div))) = true
  rw [rm_rows, tb_lstL, aw_tab, tb_lstL, aw_tab, decide_eq_true rfl, show dvB (.int m.div) = true from decide_eq_true hd]
  rfl
theorem kPs_pD (ps : List (Int × Int)) : kPs (.lst (ps.map pD)) := ⟨kn_lst _, fun xs e x hx => by
  cases e
  obtain ⟨q, _, rfl⟩ := List.mem_map.mp hx
  exact ⟨kn_tup _, fun a b e => by cases e; exact ⟨(fun z => nomatch z), (fun z => nomatch z)⟩⟩⟩
theorem psB_pD (ps : List (Int × Int)) (h : ∀ q ∈ ps, q.1 ≤ q.2) : psB' (.lst (ps.map pD)) = true := by
  show (ps.map pD).all psB = true
  rw [List.all_eq_true]
  intro d hd
  obtain ⟨q, hq, rfl⟩ := List.mem_map.mp hd
  exact decide_eq_true (h q hq)
/-- a right thing is made -/
theorem thing_ok {CM : Addr} {n : Nat} {ps : List (Int × Int)} {ms : List Md} (n1 : 1 ≤ n) (n3 : n ≤ 3) (p6 : ps.length ≤ 6) (hp : ∀ q ∈ ps, q.1 ≤ q.2) (m1 : ms ≠ []) (m40 : ms.length ≤ 40) (hd : ∀ m ∈ ms, 1 ≤ m.div) :
    isWh (.int n) ≠ none ∧ kPs (.lst (ps.map pD)) ∧ kMs CM (.lst (ms.map (mdI CM n ps.length))) ∧ thB CM (.int n) (.lst (ps.map pD)) (.lst (ms.map (mdI CM n ps.length))) = true ∧ ¬ (6 < lenD (.lst (ps.map pD)) ∨ 40 < lenD (.lst (ms.map (mdI CM n ps.length)))) := by
  refine ⟨(fun z => nomatch z), kPs_pD ps, ⟨kn_lst _, fun xs e x hx => by cases e; obtain ⟨m, _, rfl⟩ := List.mem_map.mp hx; exact kM_md CM n _ m⟩, ?_, ?_⟩
  have h1 : thB CM (.int n) (.lst (ps.map pD)) (.lst (ms.map (mdI CM n ps.length))) = true := by
    unfold thB
    have a1 : manyB (.int n) = true := by
      show (decide (1 ≤ (n : Int)) && decide ((n : Int) ≤ 3)) = true
      rw [decide_eq_true (by omega), decide_eq_true (by omega)]; rfl
    rw [a1, psB_pD ps hp, Bool.true_and, Bool.true_and]
    show msB CM (n : Int) (.lst (ms.map (mdI CM n ps.length))) ((ps.map pD).length : Int) = true
    rw [List.length_map]
    cases ms with
    | nil => exact absurd rfl m1
    | cons m ms =>
      show ((m :: ms).map (mdI CM n ps.length)).all (fun d => mdB CM d n ps.length) = true
      rw [List.all_eq_true]
      intro d hd'
      obtain ⟨m', hm', rfl⟩ := List.mem_map.mp hd'
      exact mdB_md CM n _ m' (hd m' hm')
  · exact h1
  · show ¬ (6 < (ps.map pD).length ∨ 40 < (ms.map (mdI CM n ps.length)).length)
    rw [List.length_map, List.length_map]
    omega
theorem list_copy (n w : Nat) (R : Mat) : ∀ d ∈ lstL n w R, ∃ i, i < n ∧ d = .lst (tabD w (R i)) := fun d hd => by
  obtain ⟨i, hi⟩ := List.getElem?_of_mem hd
  exact ⟨i, (rng_inv hi).1, (rng_inv hi).2⟩
abbrev g_madeF (CM CT : Addr) : DF := fun ds Q _ => ∃ (n : Nat) (ps : List (Int × Int)) (ms : List Md) (u : Int), ds = [specT n ps ms u] ∧ 1 ≤ n ∧ n ≤ 3 ∧ ps.length ≤ 6 ∧ (∀ q ∈ ps, q.1 ≤ q.2) ∧ ms ≠ [] ∧ ms.length ≤ 40 ∧ (∀ m ∈ ms, 1 ≤ m.div ∧ m.rows.length ≤ 1000) ∧
  Q (thI CT n ps (ms.map (mdI CM n ps.length)))
abbrev N_madeF : List Str := ["_law_spec", "_law_many", "_law_pushes", "_law_modes", "_law_unit", "_law_some", "_law_rows_here", "_law_nexts", "_law_steer", "_law_push", "_law_add", "_law_divisor_here", "_law_lists", "_law_one"]
def tb_madeF (CM CT CB CO : Addr) : DS :=
  (dSq (dAsg (dVar 0) (gTp 4 (gCs (gNm 1) (gCs (gNm 2) (gCs (gNm 3) (gCs (gNm 4) gNl)))))) (dSq (dOwn 5 (dLstN dNil)) (dSq (dFor (dSeq (dVar 3)) (gTp 6 (gCs (gNm 6) (gCs (gNm 7) (gCs (gNm 8) (gCs (gNm 9) (gCs (gNm 10) (gCs (gNm 11) gNl))))))) (dSq (dSet 12 (dLc (dSeq (dVar 7)) (gNm 13) dYes (dCB kList (dCons (dVarP 13) dNil)) [13])) (dApp 5 (dMake 7 CM [] g_Mode_init (dCons (dCB kList (dCons (dVarP 6) dNil)) (dCons (dVar 12) (dCons (dCB kList (dCons (dVarP 8) dNil)) (dCons (dFz (dLcN (dSeq (dVar 9)) (gNm 13) dYes (dCB kList (dCons (dVarP 13) dNil)) [13])) (dCons (dCB kList (dCons (dVarP 10) dNil)) (dCons (dVar 11) dNil)))))))))) (dFrz 5 (dRet (dMake 4 CT [] (g_Thing_init CM CB CO) (dCons (dVar 1) (dCons (dCB kList (dCons (dVarP 2) dNil)) (dCons (dVar 5) dNil)))))))))
theorem rd_madeF {CM CT CB CO : Addr} (ds : List D) (Q E : EQ) (_ : ds.length = 1) (h : g_madeF CM CT ds Q E) : tb_madeF CM CT CB CO (dE Q E) (startD N_madeF ds) := by
  obtain ⟨n, ps, ms, u, rfl, n1, n3, p6, hps, m1, m40, hm, q⟩ := h
  unfold tb_madeF dE specT
  walk_at "go"
  refine loop_ix (fun k ρ => ∃ (s6 s7 s8 s9 s10 s11 s12 s13 : Sl), ρ = [.sh (specT n ps ms u), .sh (.int n), .sh (.lst (ps.map pD)), .sh (.lst (ms.map (modeT n ps.length))), .sh (.int u), .ow ((ms.take k).map (mdI CM n ps.length)), s6, s7, s8, s9, s10, s11, s12, s13]) _ ?_ ?_ ⟨_, _, _, _, _, _, _, _, rfl⟩
  · rintro ρ ⟨s6, s7, s8, s9, s10, s11, s12, s13, rfl⟩
    rw [List.length_map, List.take_length]
    walk_at "go"
    obtain ⟨t1, t2, t3, t4, t5⟩ := thing_ok (CM := CM) n1 n3 p6 hps m1 m40 fun m h => (hm m h).1
    refine ⟨_, _, _, rfl, t1, t2, t3, ?_⟩
    rw [if_pos t4, if_neg t5]
    exact q
  · rintro k x ρ hx ⟨s6, s7, s8, s9, s10, s11, s12, s13, rfl⟩ N hN
    rw [List.getElem?_map] at hx
    obtain ⟨m, hmk, rfl⟩ := Option.map_eq_some_iff.mp hx
    have hmm := List.mem_of_getElem? hmk
    obtain ⟨d1, d2⟩ := hm m hmm
    have em : (ms.take k).map (mdI CM n ps.length) ++ [mdI CM n ps.length m] = (ms.take (k + 1)).map (mdI CM n ps.length) := by
      rw [List.take_succ, hmk, List.map_append]
      rfl
    have lt : ((ms.take k).map (mdI CM n ps.length)).length ≤ 40 := by
      rw [List.length_map, List.length_take]
      omega
    walk_at "go"
    refine comp_ix (fun i => .lst (tabD n (m.nexts i))) _ (fun i d hd K1 K0 hK => ?_) ?_
    · obtain ⟨hi, rfl⟩ := rng_inv hd
      walk_at "go"
      exact hK
    rw [lstL_len]
    walk_at "go"
    refine comp_ix (fun i => .lst (tabD ps.length (m.push i))) _ (fun i d hd K1 K0 hK => ?_) ?_
    · obtain ⟨hi, rfl⟩ := rng_inv hd
      walk_at "go"
      exact hK
    rw [lstL_len]
    walk_at "go"
    refine ⟨_, _, _, _, _, _, rfl, ko_rows _ _, ko_lstL _ _ _, ko_tab _ _, ko_lstL _ _ _, ko_tab _ _, ?_⟩
    walk_at "go"
    refine ⟨few_of (by rw [List.length_append, List.length_singleton]; omega), ?_⟩
    have e2 := hN _ ⟨.sh (.lst (m.rows.map (rowW (n + 1)))), .sh (.lst (lstL n n m.nexts)), .sh (.lst (tabD n m.steer)), .sh (.lst (lstL n ps.length m.push)), .sh (.lst (tabD n m.add)), .sh (.int m.div), .sh (.lst (lstL n n m.nexts)), s13, rfl⟩
    rw [← em] at e2
    exact e2
end Dl

/-! The D-layer, part 46: list(range(n)). -/
namespace Dl
open PySem PySem.Spec
open PyProof.Rows L2
section
variable {X : Cx} {W : WX} {a : Expr} {ta : TD}
def dRngN (ta : TD) : TDs := fun ρ Q E => ta ρ (asI fun n => 0 ≤ n ∧ n ≤ 16777216 ∧ Q (irg 0 n.toNat)) E
theorem rn_listRg {p p2 pos pos2 : Pos} (hm : X.mg "list" = none) (hm2 : X.mg "range" = none) (ha : RP X W a ta) (hc : X.calm = true := by rfl) (hg : Gl X "list" := by rfl) (hg2 : Gl X "range" := by rfl)
    (na2 : starEach [a] X.env = (false, eval a X.env) :: starEach [] X.env := by rfl)
    (na : starEach [Expr.Call (.Name "range" p2) [a] [] pos2] X.env = (false, eval (Expr.Call (.Name "range" p2) [a] [] pos2) X.env) :: starEach [] X.env := by rfl) :
    RN X W (.Call (.Name "list" p) [.Call (.Name "range" p2) [a] [] pos2] [] pos) (dRngN ta) := by
  obtain ⟨te, h1, h2⟩ := ha.run
  refine ⟨_, pe_listRg hc hg hm (prg_1 hg2 hm2 h1 na2) na, fun ρ σ F H Qd E Q rl xp kk q => h2 ρ σ F H _ E _ rl xp (fun d v F1 H1 g1 pk q1 => ?_) q⟩
  obtain ⟨n, rfl, n0, n1, q2⟩ := asI_inv q1
  cases pk.int
  refine ⟨n, rfl, RgOk.of_le (Int.le_refl 0) n1 (by decide) n0, fun l nl => ?_⟩
  have e1 : rgV 0 n = ((List.range n.toNat).map fun i : Nat => (i : Int)).map V.int := by
    unfold rgV
    rw [Int.sub_zero, List.map_map]
    exact List.map_congr_left fun i _ => by
      show V.int (0 + (i : Int)) = V.int i
      rw [Int.zero_add]
  have e2 : irg 0 n.toNat = ((List.range n.toNat).map fun i : Nat => (i : Int)).map D.int := by
    rw [irg0, List.map_map]
    rfl
  have r : Reps X.K F1 (irg 0 n.toNat) (rgV 0 n) := by rw [e1, e2]; exact reps_ints _
  refine kk _ l _ F1 _ (g1.trans (go_new g1.fh nl)) (g1.hh.free nl) upd_same (g1.fh.free nl) ?_ r q2
  rw [rgV_length, sizeLine_eq]
  omega
end
end Dl

/-! The D-layer, part 47: the most: choices, equations for shares. -/
namespace Dl
open PySem PySem.Spec
open PyProof.Rows L2
local macro_rules | `(tactic| walk_at "rd") => `(tactic| ((conv => whnf); (try dsimp only [startD, wipeD, q_map_cons, q_map_nil, q_app_cons, q_app_nil, q_len_cons, q_len_nil, q_rep_0, q_rep_s, q_get_0, q_get_s, q_set_0, q_set_s, ifP_t, ifP_f, Nat.reduceAdd, Nat.reduceSub, Int.reduceToNat, Int.reducePow, Int.reduceAdd, Int.reduceMul])))
local macro_rules | `(tactic| walk_at "bx") => `(tactic| first | with_reducible assumption | (apply bnd_mul <;> walk_at "bx") | (apply bnd_addM <;> walk_at "bx") | (apply bnd_subM <;> walk_at "bx") | (apply bnd_negM <;> walk_at "bx") | exact bnd_lit (k := 8) (by decide) | exact bnd_lit (k := 64) (by decide) | (with_reducible (apply_assumption)))
local macro_rules | `(tactic| walk_at "bd") => `(tactic| first | with_reducible assumption | (apply bnd_mono; (walk_at "bx"); first | omega | decide))
local macro_rules | `(tactic| walk_at "sd") => `(tactic| first | with_reducible assumption | omega | with_reducible rfl | exact (rfl : (_ : Bool) = true) | exact (rfl : @Eq (Option D) _ none) | decide | exact few_of (by decide) | exact divOk_small (by decide) (by decide +kernel) | exact mulOk_r (by omega) (by omega) | exact mulOk_l (by omega) (by omega) | ((with_reducible apply mul_of); (walk_at "bx"); (walk_at "bx"); first | omega | decide) | exact few_of (by simp only [List.length_append, List.length_map, List.length_cons, List.length_nil, tab_len, List.length_replicate]; omega))
local macro_rules | `(tactic| walk_at "go") => `(tactic| ((try walk_at "rd"); (repeat (refine And.intro (by walk_at "sd") ?_; try walk_at "rd"))))
/-- all choices, in the program's order -/
def choN (t : Nat) : Nat → List (List Nat)
  | 0 => [[]]
  | k + 1 => choN t k ++ ((choN t k).filter fun P => decide (P.length < t)).map (· ++ [k])
theorem choN_len (t : Nat) : ∀ m, (choN t m).length ≤ 2 ^ m
  | 0 => Nat.le_refl _
  | m + 1 => by
    unfold choN
    rw [List.length_append, List.length_map, Nat.pow_succ]
    have h1 := choN_len t m
    have h2 := List.length_filter_le (fun P : List Nat => decide (P.length < t)) (choN t m)
    omega
theorem choN_mem {t : Nat} {P : List Nat} : ∀ {m : Nat}, P ∈ choN t m ↔ P.Pairwise (· < ·) ∧ (∀ k ∈ P, k < m) ∧ P.length ≤ t
  | 0 => by
    unfold choN
    rw [List.mem_singleton]
    constructor
    · rintro rfl
      exact ⟨.nil, (fun k hk => nomatch hk), Nat.zero_le _⟩
    · rintro ⟨_, h, _⟩
      cases P with
      | nil => rfl
      | cons k P => exact absurd (h k List.mem_cons_self) (Nat.not_lt_zero k)
  | m + 1 => by
    unfold choN
    rw [List.mem_append, choN_mem (m := m)]
    constructor
    · rintro (⟨h1, h2, h3⟩ | h)
      · exact ⟨h1, fun k hk => Nat.lt_succ_of_lt (h2 k hk), h3⟩
      · obtain ⟨Q, hQ, rfl⟩ := List.mem_map.mp h
        obtain ⟨q1, q2⟩ := List.mem_filter.mp hQ
        obtain ⟨h1, h2, h3⟩ := (choN_mem (m := m)).mp q1
        have q2 := of_decide_eq_true q2
        refine ⟨List.pairwise_append.mpr ⟨h1, List.pairwise_singleton .., fun a ha b hb => by rw [List.mem_singleton.mp hb]; exact h2 a ha⟩, fun k hk => ?_, by rw [List.length_append, List.length_singleton]; omega⟩
        rcases List.mem_append.mp hk with hk | hk
        · exact Nat.lt_succ_of_lt (h2 k hk)
        · rw [List.mem_singleton.mp hk]; exact Nat.lt_succ_self m
    · rintro ⟨h1, h2, h3⟩
      by_cases hm : m ∈ P
      · right
        have hne : P ≠ [] := fun z => by rw [z] at hm; cases hm
        have e := List.dropLast_concat_getLast hne
        have lm : P.getLast hne = m := by
          have hl := h2 _ (List.getLast_mem hne)
          rw [← e] at hm h1
          rcases List.mem_append.mp hm with z | z
          · have := (List.pairwise_append.mp h1).2.2 m z _ List.mem_cons_self
            omega
          · exact (List.mem_singleton.mp z).symm
        have h1' := h1
        rw [← e, lm] at h1'
        obtain ⟨d1, d2, d3⟩ := List.pairwise_append.mp h1'
        have dl : P.dropLast.length + 1 = P.length := by
          have := congrArg List.length e
          rw [List.length_append, List.length_singleton] at this
          exact this
        refine List.mem_map.mpr ⟨P.dropLast, List.mem_filter.mpr ⟨(choN_mem (m := m)).mpr ⟨d1, fun k hk => d3 k hk m List.mem_cons_self, by omega⟩, decide_eq_true (by omega)⟩, ?_⟩
        rw [lm] at e
        exact e
      · exact .inl ⟨h1, fun k hk => by
          have := h2 k hk
          have : k ≠ m := fun z => hm (z ▸ hk)
          omega, h3⟩
abbrev g_choices : DF := fun ds Q _ => ∃ m t : Nat, ds = [.int m, .int t] ∧ m ≤ 14 ∧ Q (.lst ((choN t m).map fun P => .lst (psD P)))
abbrev N_choices : List Str := ["many", "most", "found", "k", "pick"]
def tb_choices : DS :=
  (dSq (dSet 2 (dLst (dCons (dLst dNil) dNil))) (dSq (dFor (dRng1 (dVarP 0)) (gNm 3) (dSet 2 (dOp kAdd (dVarP 2) (dFz (dLcN (dSeq (dVar 2)) (gNm 4) (dTest (dOp kLt (dCB kLen (dCons (dVarP 4) dNil)) (dVarP 1))) (dOp kAdd (dVarP 4) (dLst (dCons (dVar 3) dNil))) [4]))))) (dRet (dVar 2))))
theorem rd_choices (ds : List D) (Q E : EQ) (_ : ds.length = 2) (h : g_choices ds Q E) : tb_choices (dE Q E) (startD N_choices ds) := by
  obtain ⟨m, t, rfl, hm, q⟩ := h
  unfold tb_choices dE
  walk_at "go"
  rw [Int.toNat_natCast, irg0]
  refine loop_ix (fun k ρ => ∃ s3 s4 : Sl, ρ = [.sh (.int m), .sh (.int t), .sh (.lst ((choN t k).map fun P => .lst (psD P))), s3, s4]) _ ?_ ?_ ⟨_, _, rfl⟩
  · rintro ρ ⟨s3, s4, rfl⟩
    rw [List.length_map, List.length_range]
    exact q
  · rintro k x ρ hx ⟨s3, s4, rfl⟩ N hN
    obtain ⟨hk, rfl⟩ := rng_inv hx
    have l1 := choN_len t k
    have l2 : 2 ^ k ≤ 2 ^ 14 := Nat.pow_le_pow_right (by decide) (by omega)
    have lp : ∀ P ∈ choN t k, P.length ≤ 14 := fun P hP => by
      obtain ⟨h1, h2, h3⟩ := choN_mem.mp hP
      have := inc_len h1 h2
      omega
    walk_at "go"
    refine compL_fil (fun P => D.lst (psD P)) (fun P => D.lst (psD (P ++ [k]))) (fun P => decide (P.length < t)) (choN t k) (fun P hP K1 K0 h1 h0 => ?_) ?_
    · have := lp P hP
      have el : (psD P).length = P.length := by unfold psD; rw [List.length_map]
      have ea : psD (P ++ [k]) = psD P ++ [.int k] := by unfold psD; rw [List.map_append]; rfl
      walk_at "rd"
      rw [el]
      by_cases e : P.length < t
      · rw [decide_eq_true (show (P.length : Int) < (t : Int) by omega)]
        have h1 := h1 (decide_eq_true e)
        rw [ea] at h1
        walk_at "go"
        first
        | exact h1
        | exact ⟨few_of (by rw [List.length_append, el, List.length_singleton]; omega), h1⟩
      · rw [decide_eq_false (show ¬ (P.length : Int) < (t : Int) by omega)]
        exact h0 (decide_eq_false e)
    · walk_at "go"
      have ec : (choN t k).map (fun P => D.lst (psD P)) ++ ((choN t k).filter fun P => decide (P.length < t)).map (fun P => D.lst (psD (P ++ [k]))) = (choN t (k + 1)).map fun P => .lst (psD P) := by
        conv => rhs; unfold choN
        rw [List.map_append, List.map_map]
        rfl
      rw [ec]
      have l3 := choN_len t (k + 1)
      have l4 : 2 ^ (k + 1) ≤ 2 ^ 14 := Nat.pow_le_pow_right (by decide) (by omega)
      refine ⟨few_of (by rw [List.length_map]; omega), ?_⟩
      exact hN _ ⟨_, _, rfl⟩
/-- the equations for shares of picked rows -/
def tM' (R : Mat) (P : List Nat) (tg : Nat → Int) : Mat := fun i j => if j < P.length then R (P.getD j 0) i else tg i
abbrev g_turned_rows : DF := fun ds Q _ => ∃ (m n : Nat) (R : Mat) (P : List Nat) (tg : Nat → Int), ds = [.lst (matD m (n + 1) R), .lst (psD P), rowW (n + 1) tg] ∧ n ≤ 100 ∧ P.length ≤ 100 ∧ (∀ k ∈ P, k < m) ∧
  Q (.lst (matD n (P.length + 1) (tM' R P tg)))
abbrev N_turned_rows : List Str := ["room", "pick", "target", "k", "place"]
def tb_turned_rows : DS :=
  (dRet (dFz (dLcN (dRng1 (dOp kSub (dCB kLen (dCons (dVarP 2) dNil)) (dC (.int 1)))) (gNm 4) dYes (dCB kTuple (dCons (dOp kAdd (dFz (dLcN (dSeq (dVar 1)) (gNm 3) dYes (dOp kIx (dOp kIx (dVarP 0) (dVarP 3)) (dVarP 4)) [3])) (dLst (dCons (dOp kIx (dVarP 2) (dVarP 4)) dNil))) dNil)) [4])))
theorem rd_turned_rows (ds : List D) (Q E : EQ) (_ : ds.length = 3) (h : g_turned_rows ds Q E) : tb_turned_rows (dE Q E) (startD N_turned_rows ds) := by
  obtain ⟨m, n, R, P, tg, rfl, hn, hp, hP, q⟩ := h
  unfold tb_turned_rows dE rowW
  walk_at "go"
  rw [tab_len, show ((n + 1 : Nat) : Int) - 1 = (n : Int) by omega]
  refine ⟨by omega, by omega, ?_⟩
  rw [Int.toNat_natCast, irg0]
  refine compL_fun (fun i : Nat => D.int i) (fun i : Nat => rowW (P.length + 1) (tM' R P tg i)) (List.range n) (fun i hi K1 K0 hK => ?_) ?_
  · have hi := List.mem_range.mp hi
    walk_at "rd"
    refine compL_fun (fun k : Nat => D.int k) (fun k : Nat => D.int (R k i)) P (fun k hk K1' K0' hK' => ?_) ?_
    · have hk := hP k hk
      walk_at "rd"
      rw [atI_nn, show (matD m (n + 1) R)[k]? = some (rowW (n + 1) (R k)) from rng_get hk]
      unfold rowW
      walk_at "rd"
      rw [atI_nn, tab_get (by omega)]
      walk_at "rd"
      exact hK'
    walk_at "rd"
    rw [atI_nn, tab_get (by omega)]
    walk_at "go"
    have e : P.map (fun k => D.int (R k i)) ++ [D.int (tg i)] = tabD (P.length + 1) (tM' R P tg i) := by
      have := tab_list (P.map (fun k => R k i) ++ [tg i])
      rw [List.map_append, List.map_map, List.length_append, List.length_map, List.length_singleton] at this
      refine (show _ = _ from this).trans (tab_congr fun j hj => ?_)
      unfold tM'
      rw [List.getD_eq_getElem?_getD]
      by_cases hjp : j < P.length
      · rw [if_pos hjp, List.getElem?_append_left (by rw [List.length_map]; exact hjp), List.getElem?_map, List.getD_eq_getElem?_getD, List.getElem?_eq_getElem hjp]
        rfl
      · have : j = P.length := by omega
        subst this
        rw [if_neg hjp, List.getElem?_append_right (by rw [List.length_map]; exact Nat.le_refl _), List.length_map, Nat.sub_self]
        rfl
    rw [e]
    exact hK
  · exact q
/-! ### fractions made whole -/
def wO : List (Int × Int) → Int → Int
  | [], o => o
  | p :: ps, o => wO ps ((o * p.2).fdiv (Int.gcd o p.2))
def okW (xs : List (Int × Int)) : Prop := ∀ x ∈ xs, 0 < x.2 ∧ bnd 600 x.1 ∧ bnd 600 x.2
theorem lcm_step {o b : Int} (ho : 0 < o) (hb : 0 < b) : 0 < (o * b).fdiv (Int.gcd o b) ∧ o ∣ (o * b).fdiv (Int.gcd o b) ∧ b ∣ (o * b).fdiv (Int.gcd o b) ∧ ((o * b).fdiv (Int.gcd o b)).natAbs ≤ (o * b).natAbs := by
  have g0 : (Int.gcd o b : Int) ≠ 0 := fun z => by
    have := Int.gcd_eq_zero_iff.mp (Int.ofNat_eq_zero.mp z)
    omega
  have gp : 0 < (Int.gcd o b : Int) := by omega
  obtain ⟨c, hc⟩ : (Int.gcd o b : Int) ∣ b := Int.gcd_dvd_right ..
  obtain ⟨d, hd⟩ : (Int.gcd o b : Int) ∣ o := Int.gcd_dvd_left ..
  have e1 : (o * b).fdiv (Int.gcd o b) = o * c := by
    rw [show o * b = (Int.gcd o b : Int) * (o * c) from by conv => lhs; rw [hc]
                                                           grind, Int.mul_fdiv_cancel_left _ g0]
  have e2 : (o * b).fdiv (Int.gcd o b) = b * d := by
    rw [show o * b = (Int.gcd o b : Int) * (b * d) from by conv => lhs; rw [hd]
                                                           grind, Int.mul_fdiv_cancel_left _ g0]
  have cp : 0 < c := Classical.byContradiction fun z => by
    have := Int.mul_nonneg (show 0 ≤ (Int.gcd o b : Int) by omega) (show 0 ≤ -c by omega)
    rw [Int.mul_neg, ← hc] at this
    omega
  exact ⟨e1 ▸ Int.mul_pos ho cp, e1 ▸ Int.dvd_mul_right .., e2 ▸ Int.dvd_mul_right .., fdiv_le (by omega)⟩
theorem wO_ok : ∀ (xs : List (Int × Int)) (o : Int) (k : Nat), okW xs → 0 < o → bnd k o → 0 < wO xs o ∧ o ∣ wO xs o ∧ (∀ x ∈ xs, x.2 ∣ wO xs o) ∧ bnd (k + 600 * xs.length) (wO xs o)
  | [], o, k, _, ho, hk => ⟨ho, Int.dvd_refl _, (fun x hx => nomatch hx), hk⟩
  | p :: ps, o, k, hx, ho, hk => by
    obtain ⟨p1, p2, p3⟩ := hx p List.mem_cons_self
    obtain ⟨a1, a2, a3, a4⟩ := lcm_step ho p1
    obtain ⟨b1, b2, b3, b4⟩ := wO_ok ps ((o * p.2).fdiv (Int.gcd o p.2)) (k + 600) (fun x h => hx x (List.mem_cons_of_mem _ h)) a1 (bnd_le a4 (bnd_mul hk p3))
    unfold wO
    refine ⟨b1, Int.dvd_trans a2 b2, fun x hx' => ?_, bnd_mono b4 (by rw [List.length_cons]; omega)⟩
    rcases List.mem_cons.mp hx' with rfl | hx'
    · exact Int.dvd_trans a3 b2
    · exact b3 x hx'
def wN (xs : List (Int × Int)) (P : List Nat) (o : Int) (q : Nat) : Int := if q ∈ P then (xs.getD (P.idxOf q) (0, 1)).1 * o.fdiv (xs.getD (P.idxOf q) (0, 1)).2 else 0
abbrev g_made_whole : DF := fun ds Q _ => ∃ (m : Nat) (P : List Nat) (xs : List (Int × Int)), ds = [.lst (xs.map prD), .lst (psD P), .int m] ∧ xs.length = P.length ∧ P.Nodup ∧ (∀ k ∈ P, k < m) ∧ m ≤ 1000 ∧ P.length ≤ 10 ∧ okW xs ∧
  Q (.tup [.int (wO xs 1), .lst (tabD m (wN xs P (wO xs 1)))])
abbrev N_made_whole : List Str := ["parts", "pick", "many", "often", "part", "numbers", "k"]
def tb_made_whole : DS :=
  (dSq (dSet 3 (dC (.int 1))) (dSq (dFor (dSeq (dVar 0)) (gNm 4) (dSet 3 (dOp kDiv (dOp kMul (dVarP 3) (dOp kIx (dVarP 4) (dC (.int 1)))) (dCall 2 [] g_common (dCons (dVar 3) (dCons (dOp kIx (dVarP 4) (dC (.int 1))) dNil)))))) (dSq (dOwn 5 (dRepN (dLst (dCons (dC (.int 0)) dNil)) (dVarP 2))) (dSq (dFor (dRng1 (dCB kLen (dCons (dVarP 1) dNil))) (gNm 6) (dPut 5 (dOp kIx (dVarP 1) (dVarP 6)) (dOp kMul (dOp kIx (dOp kIx (dVarP 0) (dVarP 6)) (dC (.int 0))) (dOp kDiv (dVarP 3) (dOp kIx (dOp kIx (dVarP 0) (dVarP 6)) (dC (.int 1))))))) (dFrz 5 (dRet (dTup (dCons (dVar 3) (dCons (dVar 5) dNil)))))))))
theorem whole_loop {d : DE} {s0 s1 s2 s5 s6 : Sl} : ∀ (xs : List (Int × Int)) (o : Int) (k : Nat) (s4 : Sl), okW xs → 0 < o → bnd k o → k + 600 * xs.length ≤ 7000 → (∀ s4, d.nx [s0, s1, s2, .sh (.int (wO xs o)), s4, s5, s6]) →
    loopD (gNm 4) (dSet 3 (dOp kDiv (dOp kMul (dVarP 3) (dOp kIx (dVarP 4) (dC (.int 1)))) (dCall 2 [] g_common (dCons (dVar 3) (dCons (dOp kIx (dVarP 4) (dC (.int 1))) dNil))))) d (xs.map prD) [s0, s1, s2, .sh (.int o), s4, s5, s6]
  | [], o, k, s4, _, _, _, _, h => lp_nil (h _)
  | p :: ps, o, k, s4, hx, ho, hk, hl, h => by
    obtain ⟨p1, p2, p3⟩ := hx p List.mem_cons_self
    rw [List.length_cons] at hl
    rw [List.map_cons]
    refine lp_cons ?_
    obtain ⟨a1, a2, a3, a4⟩ := lcm_step ho p1
    have m1 := mul_of hk p3 (by omega)
    have g0 : (Int.gcd o p.2 : Int) ≠ 0 := fun z => by
      have := Int.gcd_eq_zero_iff.mp (Int.ofNat_eq_zero.mp z)
      omega
    have dv := div_of g0 (bnd_mono (gcd_bnd (t := o) (by omega) p3) (by decide))
    unfold prD pr
    walk_at "go"
    refine ⟨o, p.2, rfl, ?_⟩
    walk_at "go"
    exact whole_loop ps _ (k + 600) _ (fun x h => hx x (List.mem_cons_of_mem _ h)) a1 (bnd_le a4 (bnd_mul hk p3)) (by omega) h
theorem rd_made_whole (ds : List D) (Q E : EQ) (_ : ds.length = 3) (h : g_made_whole ds Q E) : tb_made_whole (dE Q E) (startD N_made_whole ds) := by
  obtain ⟨m, P, xs, rfl, hl, nd, hP, hm, hp, ok, q⟩ := h
  obtain ⟨w1, w2, w3, w4⟩ := wO_ok xs 1 1 ok (by decide) (bnd_one (by decide))
  unfold tb_made_whole dE
  walk_at "go"
  refine whole_loop xs 1 1 _ ok (by decide) (bnd_one (by decide)) (by omega) fun s4 => ?_
  generalize hO : wO xs 1 = O at *
  walk_at "go"
  rw [rep0]
  refine ⟨few_of (by rw [tab_len]; omega), ?_⟩
  walk_at "go"
  have pl : (psD P).length = P.length := by unfold psD; rw [List.length_map]
  rw [pl]
  refine ⟨by omega, by omega, ?_⟩
  rw [Int.toNat_natCast, irg0]
  have e0 : tabD m (fun _ => 0) = tabD m fun q => if q ∈ P.take 0 then wN xs P O q else 0 := tab_congr fun j _ => by rw [List.take_zero, if_neg List.not_mem_nil]
  rw [e0]
  refine loop_ix (fun k ρ => ∃ s6 : Sl, ρ = [.sh (.lst (xs.map prD)), .sh (.lst (psD P)), .sh (.int m), .sh (.int O), s4, .ow (tabD m fun q => if q ∈ P.take k then wN xs P O q else 0), s6]) _ ?_ ?_ ⟨_, rfl⟩
  · rintro ρ ⟨s6, rfl⟩
    rw [List.length_map, List.length_range, List.take_length]
    walk_at "go"
    have e1 : tabD m (wN xs P O) = tabD m fun q => if q ∈ P then wN xs P O q else 0 := tab_congr fun j _ => by
      by_cases h : j ∈ P
      · rw [if_pos h]
      · rw [if_neg h]; unfold wN; rw [if_neg h]
    rw [e1] at q
    exact q
  · rintro k x ρ hx ⟨s6, rfl⟩ N hN
    obtain ⟨hk, rfl⟩ := rng_inv hx
    have hkx : k < xs.length := by omega
    have hPk : P[k]? = some P[k] := List.getElem?_eq_getElem hk
    have hm' := hP _ (List.getElem_mem hk)
    obtain ⟨x1, x2, x3⟩ := ok _ (List.getElem_mem hkx)
    have hxk : atI (xs.map prD) (k : Int) = some (.tup [.int xs[k].1, .int xs[k].2]) := by
      rw [atI_nn, List.getElem?_map, List.getElem?_eq_getElem hkx]
      rfl
    have dv := div_of (show xs[k].2 ≠ 0 by omega) (bnd_mono x3 (by decide))
    have bf : bnd 7000 (O.fdiv xs[k].2) := bnd_le (fdiv_le (by omega)) (bnd_mono w4 (by omega))
    have mm := mul_of x2 bf (by decide)
    walk_at "rd"
    rw [hxk]
    walk_at "go"
    rw [hxk]
    walk_at "go"
    rw [ps_get hPk]
    walk_at "go"
    rw [tab_len, ixN_nn hm']
    walk_at "rd"
    rw [tab_set]
    have e2 : tabD m (fun i => if i = P[k] then xs[k].1 * O.fdiv xs[k].2 else if i ∈ P.take k then wN xs P O i else 0) = tabD m fun q => if q ∈ P.take (k + 1) then wN xs P O q else 0 := tab_congr fun j _ => by
      rw [List.take_succ, hPk, show (some P[k]).toList = [P[k]] from rfl]
      by_cases h : j = P[k]
      · subst h
        rw [if_pos rfl, if_pos (List.mem_append_right _ List.mem_cons_self)]
        unfold wN
        rw [if_pos (List.getElem_mem hk), idx_of nd hPk, List.getD_eq_getElem?_getD, List.getElem?_eq_getElem hkx]
        rfl
      · rw [if_neg h]
        by_cases g : j ∈ P.take k
        · rw [if_pos g, if_pos (List.mem_append_left _ g)]
        · rw [if_neg g, if_neg (fun u => (List.mem_append.mp u).elim g fun v => h (List.mem_singleton.mp v))]
    rw [e2]
    exact hN _ ⟨_, rfl⟩
/-! ### rows added -/
abbrev g_addedM : DF := fun ds Q _ => ∃ (k n : Nat) (R : Mat) (a : Nat → Int), ds = [.lst (matD k (n + 1) R), .lst (tabD k a), .int n] ∧ n ≤ 100 ∧ k ≤ 100 ∧ (∀ j, bnd 20000 (a j)) ∧ (∀ i j, bnd 5000 (R i j)) ∧
  Q (.tup (tabD (n + 1) fun j => dot (fun i => R i j) a k))
abbrev N_addedM : List Str := ["rows", "numbers", "many", "found", "row", "number", "k"]
def tb_addedM : DS :=
  (dSq (dOwn 3 (dRepN (dLst (dCons (dC (.int 0)) dNil)) (dOp kAdd (dVarP 2) (dC (.int 1))))) (dSq (dFor (dZip (dVar 0) (dVar 1)) (gTp 2 (gCs (gNm 4) (gCs (gNm 5) gNl))) (dFor (dRng1 (dOp kAdd (dVarP 2) (dC (.int 1)))) (gNm 6) (dAugO 3 kAddI (dVarP 6) (dOp kMul (dVarP 5) (dOp kIx (dVarP 4) (dVarP 6)))))) (dRet (dCB kTuple (dCons (dVarP 3) dNil)))))
theorem rd_addedM (ds : List D) (Q E : EQ) (_ : ds.length = 3) (h : g_addedM ds Q E) : tb_addedM (dE Q E) (startD N_addedM ds) := by
  obtain ⟨k, n, R, a, rfl, hn, hk, ha, hR, q⟩ := h
  have nn : ((n : Int) + 1).toNat = n + 1 := by omega
  unfold tb_addedM dE
  walk_at "go"
  rw [nn, tab_rep]
  refine ⟨few_of (by rw [tab_len]; omega), ?_⟩
  walk_at "go"
  have pe : pairs (matD k (n + 1) R) (tabD k a) = (List.range k).map fun i => .tup [rowW (n + 1) (R i), .int (a i)] := pairs_rng
  rw [pe]
  refine loop_ix (fun i ρ => ∃ s4 s5 s6, ρ = [.sh (.lst (matD k (n + 1) R)), .sh (.lst (tabD k a)), .sh (.int n), .ow (tabD (n + 1) fun j => dot (fun i => R i j) a i), s4, s5, s6]) _ ?_ ?_ ⟨_, _, _, rfl⟩
  · rintro ρ ⟨s4, s5, s6, rfl⟩
    rw [rng_len]
    walk_at "go"
    exact q
  · rintro i x ρ hx ⟨s4, s5, s6, rfl⟩ N hN
    obtain ⟨hi, rfl⟩ := rng_inv hx
    walk_at "go"
    rw [nn]
    refine loop_ix (fun j ρ => ∃ s6, ρ = [.sh (.lst (matD k (n + 1) R)), .sh (.lst (tabD k a)), .sh (.int n), .ow (tabD (n + 1) fun jj => if jj < j then dot (fun i => R i jj) a (i + 1) else dot (fun i => R i jj) a i), .sh (rowW (n + 1) (R i)), .sh (.int (a i)), s6]) _ ?_ ?_ ⟨s6, by
      rw [show (fun jj => if jj < 0 then dot (fun i => R i jj) a (i + 1) else dot (fun i => R i jj) a i) = fun jj => dot (fun i => R i jj) a i from funext fun jj => if_neg (Nat.not_lt_zero jj)]⟩
    · rintro ρ ⟨s6, rfl⟩
      rw [irg_len]
      walk_at "rd"
      refine hN _ ⟨.sh (rowW (n + 1) (R i)), .sh (.int (a i)), s6, ?_⟩
      congr 5
      exact tab_congr fun jj hj => if_pos hj
    · rintro j x ρ hx ⟨s6, rfl⟩ N' hN'
      obtain ⟨hj, rfl⟩ := irg_inv hx
      rw [Int.zero_add]
      have m1 := mul_of (ha i) (hR i j) (by decide)
      walk_at "rd"
      rw [tab_len, ixN_nn hj]
      walk_at "rd"
      rw [tab_get hj]
      unfold rowW
      walk_at "rd"
      rw [atI_nn, tab_get hj]
      walk_at "go"
      refine hN' _ ⟨.sh (.int j), ?_⟩
      rw [tab_set]
      unfold rowW
      congr 5
      refine tab_congr fun jj hjj => ?_
      by_cases e : jj = j
      · rw [if_pos e, if_neg (Nat.lt_irrefl j), if_pos (show jj < j + 1 by omega), e]
        show _ = dot (fun i => R i j) a i + R i j * a i
        rw [Int.mul_comm (R i j)]
      · rw [if_neg e]
        by_cases l : jj < j
        · rw [if_pos l, if_pos (by omega)]
        · rw [if_neg l, if_neg (by omega)]
end Dl

/-! The D-layer, part 48: the most: shares by picked rows. -/
namespace Dl
open PySem PySem.Spec
open PyProof.Rows L2
local macro_rules | `(tactic| walk_at "rd") => `(tactic| ((conv => whnf); (try dsimp only [startD, wipeD, q_map_cons, q_map_nil, q_app_cons, q_app_nil, q_len_cons, q_len_nil, q_rep_0, q_rep_s, q_get_0, q_get_s, q_set_0, q_set_s, ifP_t, ifP_f, Nat.reduceAdd, Nat.reduceSub, Int.reduceToNat, Int.reducePow, Int.reduceAdd, Int.reduceMul])))
local macro_rules | `(tactic| walk_at "bx") => `(tactic| first | with_reducible assumption | (apply bnd_mul <;> walk_at "bx") | (apply bnd_addM <;> walk_at "bx") | (apply bnd_subM <;> walk_at "bx") | (apply bnd_negM <;> walk_at "bx") | exact bnd_lit (k := 8) (by decide) | exact bnd_lit (k := 64) (by decide) | (with_reducible (apply_assumption)))
local macro_rules | `(tactic| walk_at "bd") => `(tactic| first | with_reducible assumption | (apply bnd_mono; (walk_at "bx"); first | omega | decide))
local macro_rules | `(tactic| walk_at "sd") => `(tactic| first | with_reducible assumption | omega | with_reducible rfl | exact (rfl : (_ : Bool) = true) | exact (rfl : @Eq (Option D) _ none) | decide | exact few_of (by decide) | exact divOk_small (by decide) (by decide +kernel) | exact mulOk_r (by omega) (by omega) | exact mulOk_l (by omega) (by omega) | ((with_reducible apply mul_of); (walk_at "bx"); (walk_at "bx"); first | omega | decide) | exact few_of (by simp only [List.length_append, List.length_map, List.length_cons, List.length_nil, tab_len, List.length_replicate]; omega))
local macro_rules | `(tactic| walk_at "go") => `(tactic| ((try walk_at "rd"); (repeat (refine And.intro (by walk_at "sd") ?_; try walk_at "rd"))))
def shN (n : Nat) (R : Mat) (P : List Nat) (tg : Nat → Int) : Option (Int × (Nat → Int)) :=
  match solN n P.length (tM' R P tg) with
  | none => none
  | some (xs, r) => if r < P.length then none else if xs.any (fun x => decide ((frX x).1 < 0)) then none else some (wO (xs.map frX) 1, wN (xs.map frX) P (wO (xs.map frX) 1))
def shD (m : Nat) : Option (Int × (Nat → Int)) → D
  | none => .non
  | some (o, N) => .tup [.int o, .lst (tabD m N)]
theorem tM'_bnd {b : Nat} {R : Mat} {P : List Nat} {tg : Nat → Int} (h1 : ∀ i j, bnd b (R i j)) (h2 : ∀ j, bnd b (tg j)) (i j : Nat) : bnd b (tM' R P tg i j) := by
  unfold tM'; split
  · exact h1 _ _
  · exact h2 _
/-- the numbers told have bottoms, and are small -/
theorem xG_okW {m c b : Nat} {T : Mat} (hb : ∀ i j, bnd b (T i j)) (hm : eb b m ≤ 600) : okW (((List.range c).map (xG (redG (c + 1) m T c).1 c (redG (c + 1) m T c).2)).map frX) := fun x hx => by
  obtain ⟨p, hp, rfl⟩ := List.mem_map.mp hx
  obtain ⟨q, hq, rfl⟩ := List.mem_map.mp hp
  have e : Ech (c + 1) m c T (redG (c + 1) m T c).1 (redG (c + 1) m T c).2 := red_ech (Nat.le_succ c)
  have rb : ∀ i j, bnd 600 ((redG (c + 1) m T c).1 i j) := fun i j => bnd_mono (red_bnd hb c i j) (Nat.le_trans (eb_mono e.len) hm)
  have ok : (xG (redG (c + 1) m T c).1 c (redG (c + 1) m T c).2 q).2 ≠ 0 ∧ bnd 600 (xG (redG (c + 1) m T c).1 c (redG (c + 1) m T c).2 q).1 ∧ bnd 600 (xG (redG (c + 1) m T c).1 c (redG (c + 1) m T c).2 q).2 := by
    unfold xG
    by_cases h : q ∈ (redG (c + 1) m T c).2
    · rw [if_pos h]
      obtain ⟨i, hi⟩ := List.getElem?_of_mem h
      rw [idx_of (inc_nodup e.inc) hi]
      exact ⟨(e.piv i q hi).1, rb _ _, rb _ _⟩
    · rw [if_neg h]
      exact ⟨by decide, bnd_zero, bnd_one (by decide)⟩
  have f := frX_ok ok.1
  exact ⟨f.1, bnd_le f.2.2.2.1 ok.2.1, bnd_le f.2.2.2.2 ok.2.2⟩
structure okPk (m n b : Nat) (R : Mat) (P : List Nat) : Prop where
  n3 : n ≤ 3
  m14 : m ≤ 14
  nd : P.Nodup
  lt : ∀ k ∈ P, k < m
  p4 : P.length ≤ 4
  R : ∀ i j, bnd b (R i j)
  e3 : eb b 3 ≤ 600
abbrev g_shares_by : DF := fun ds Q _ => ∃ (m n b : Nat) (R : Mat) (P : List Nat) (tg : Nat → Int), ds = [.lst (matD m (n + 1) R), .lst (psD P), rowW (n + 1) tg] ∧ okPk m n b R P ∧ (∀ j, bnd b (tg j)) ∧ Q (shD m (shN n R P tg))
abbrev N_shares_by : List Str := ["room", "pick", "target", "found", "part"]
def tb_shares_by : DS :=
  (dSq (dSet 3 (dCall 2 [] g_solution (dCons (dCall 3 [] g_turned_rows (dCons (dVar 0) (dCons (dVar 1) (dCons (dVar 2) dNil)))) (dCons (dCB kLen (dCons (dVarP 1) dNil)) dNil)))) (dSq (dIf (dOr (dTest (dOp kIs (dVarP 3) (dC .non))) (dTest (dOp kLt (dOp kIx (dVarP 3) (dC (.int 1))) (dCB kLen (dCons (dVarP 1) dNil))))) (dRet (dC .non)) dNext) (dSq (dIf (dTest (dOp kNe (dFz (dLcN (dSeq (dOp kIx (dVarP 3) (dC (.int 0)))) (gNm 4) (dTest (dOp kLt (dOp kIx (dVarP 4) (dC (.int 0))) (dC (.int 0)))) (dVar 4) [4])) (dLst dNil))) (dRet (dC .non)) dNext) (dRet (dCall 3 [] g_made_whole (dCons (dOp kIx (dVarP 3) (dC (.int 0))) (dCons (dVar 1) (dCons (dCB kLen (dCons (dVarP 0) dNil)) dNil))))))))
theorem okk_pts (ys : List (Int × Int)) : D.okk 64 (.lst (ys.map prD)) = true := by
  unfold D.okk
  exact okks_all fun d hd => by
    obtain ⟨r, _, rfl⟩ := List.mem_map.mp hd
    rfl
theorem eqv_pts {ys : List (Int × Int)} (h : ys ≠ []) : PyData.eqv (D.lst (ys.map prD)).py (D.lst []).py = false := by
  cases ys with
  | nil => exact absurd rfl h
  | cons r rl => rw [List.map_cons]; rfl
theorem rd_shares_by (ds : List D) (Q E : EQ) (_ : ds.length = 3) (h : g_shares_by ds Q E) : tb_shares_by (dE Q E) (startD N_shares_by ds) := by
  obtain ⟨m, n, b, R, P, tg, rfl, ok, ht, q⟩ := h
  have n3 := ok.n3
  have p4 := ok.p4
  have pl : (psD P).length = P.length := by unfold psD; rw [List.length_map]
  have ml : (matD m (n + 1) R).length = m := by unfold matD; rw [List.length_map, List.length_range]
  have e4 : eb b P.length ≤ 3900 := by
    have h4 := eb_mono (b := b) p4
    have : eb b 4 = 2 * eb b 3 + 1 := rfl
    have := ok.e3
    omega
  unfold tb_shares_by dE
  walk_at "go"
  refine ⟨m, n, R, P, tg, rfl, by omega, by omega, ok.lt, ?_⟩
  walk_at "go"
  rw [pl]
  refine ⟨n, P.length, b, _, rfl, by omega, by omega, tM'_bnd ok.R ht, e4, ?_⟩
  unfold shN at q
  have hW := xG_okW (m := n) (c := P.length) (T := tM' R P tg) (tM'_bnd ok.R ht) (Nat.le_trans (eb_mono n3) ok.e3)
  unfold solN at q ⊢
  by_cases hb : badG n P.length (redG (P.length + 1) n (tM' R P tg) P.length).1 (redG (P.length + 1) n (tM' R P tg) P.length).2.length = true
  · rw [if_pos hb] at q ⊢
    walk_at "go"
    exact q
  · rw [if_neg hb] at q ⊢
    generalize (redG (P.length + 1) n (tM' R P tg) P.length).2.length = r at *
    generalize hxs : (List.range P.length).map (xG (redG (P.length + 1) n (tM' R P tg) P.length).1 P.length (redG (P.length + 1) n (tM' R P tg) P.length).2) = xs at *
    have xl : xs.length = P.length := by rw [← hxs, List.length_map, List.length_range]
    have ex : xs.map frP = (xs.map frX).map prD := by rw [List.map_map]; rfl
    have q : Q (shD m (if r < P.length then none else if xs.any (fun x => decide ((frX x).1 < 0)) = true then none else some (wO (xs.map frX) 1, wN (xs.map frX) P (wO (xs.map frX) 1)))) := q
    have es : solD (some (xs, r)) = .tup [.lst ((xs.map frX).map prD), .int r] := by
      show D.tup [.lst (xs.map frP), .int r] = _
      rw [ex]
    rw [es]
    have ks := fun ys : List (Int × Int) => okk_pts ys
    walk_at "rd"
    rw [pl]
    by_cases hr : r < P.length
    · rw [if_pos hr] at q
      rw [decide_eq_true (show (r : Int) < (P.length : Int) by omega)]
      walk_at "go"
      exact q
    · rw [if_neg hr] at q
      rw [decide_eq_false (show ¬ (r : Int) < (P.length : Int) by omega)]
      walk_at "rd"
      refine compL_fil prD prD (fun x => decide (x.1 < 0)) (xs.map frX) (fun x hx K1 K0 h1 h0 => ?_) ?_
      · unfold prD pr
        walk_at "rd"
        by_cases hz : x.1 < 0
        · rw [decide_eq_true hz]
          exact h1 (decide_eq_true hz)
        · rw [decide_eq_false hz]
          exact h0 (decide_eq_false hz)
      walk_at "go"
      refine ⟨plain_of (ks _), plain_of (show (D.lst []).okk 64 = true from rfl), ?_⟩
      by_cases ha : xs.any (fun x => decide ((frX x).1 < 0)) = true
      · rw [if_pos ha] at q
        have ne : (xs.map frX).filter (fun x => decide (x.1 < 0)) ≠ [] := fun z => by
          obtain ⟨x, hx, h⟩ := List.any_eq_true.mp ha
          have : frX x ∈ (xs.map frX).filter (fun x => decide (x.1 < 0)) := List.mem_filter.mpr ⟨List.mem_map.mpr ⟨x, hx, rfl⟩, h⟩
          rw [z] at this
          cases this
        rw [eqv_pts ne]
        walk_at "go"
        exact q
      · rw [if_neg ha] at q
        have e0 : (xs.map frX).filter (fun x => decide (x.1 < 0)) = [] := List.filter_eq_nil_iff.mpr fun x hx h => by
          obtain ⟨y, hy, rfl⟩ := List.mem_map.mp hx
          exact ha (List.any_eq_true.mpr ⟨y, hy, h⟩)
        rw [e0]
        walk_at "go"
        rw [ml]
        refine ⟨m, P, xs.map frX, rfl, by rw [List.length_map, xl], ok.nd, ok.lt, by have := ok.m14; omega, by omega, hW, ?_⟩
        exact q
end Dl

/-! The D-layer, part 49: the most: rings. -/
namespace Dl
open PySem PySem.Spec
open PyProof.Rows L2
local macro_rules | `(tactic| walk_at "rd") => `(tactic| ((conv => whnf); (try dsimp only [startD, wipeD, q_map_cons, q_map_nil, q_app_cons, q_app_nil, q_len_cons, q_len_nil, q_rep_0, q_rep_s, q_get_0, q_get_s, q_set_0, q_set_s, ifP_t, ifP_f, Nat.reduceAdd, Nat.reduceSub, Int.reduceToNat, Int.reducePow, Int.reduceAdd, Int.reduceMul])))
local macro_rules | `(tactic| walk_at "bx") => `(tactic| first | with_reducible assumption | (apply bnd_mul <;> walk_at "bx") | (apply bnd_addM <;> walk_at "bx") | (apply bnd_subM <;> walk_at "bx") | (apply bnd_negM <;> walk_at "bx") | exact bnd_lit (k := 8) (by decide) | exact bnd_lit (k := 64) (by decide) | (with_reducible (apply_assumption)))
local macro_rules | `(tactic| walk_at "bd") => `(tactic| first | with_reducible assumption | (apply bnd_mono; (walk_at "bx"); first | omega | decide))
local macro_rules | `(tactic| walk_at "sd") => `(tactic| first | with_reducible assumption | omega | with_reducible rfl | exact (rfl : (_ : Bool) = true) | exact (rfl : @Eq (Option D) _ none) | decide | exact few_of (by decide) | exact divOk_small (by decide) (by decide +kernel) | exact mulOk_r (by omega) (by omega) | exact mulOk_l (by omega) (by omega) | ((with_reducible apply mul_of); (walk_at "bx"); (walk_at "bx"); first | omega | decide) | exact few_of (by simp only [List.length_append, List.length_map, List.length_cons, List.length_nil, tab_len, List.length_replicate]; omega))
local macro_rules | `(tactic| walk_at "go") => `(tactic| ((try walk_at "rd"); (repeat (refine And.intro (by walk_at "sd") ?_; try walk_at "rd"))))
/-- an int in a list of ints -/
def kNotIn : KD := fun x y Q => match x, y with
  | .int i, .lst ds => ∃ ns : List Int, ds = ns.map .int ∧ Q (.bl (!decide (i ∈ ns)))
  | _, _ => False
theorem inV_ints (i : Int) (ns : List Int) : inV (.int i) (ns.map V.int) = decide (i ∈ ns) := by
  induction ns with
  | nil => rfl
  | cons n ns ih =>
    unfold inV at ih ⊢
    rw [List.map_cons, List.any_cons, ih]
    have e : eqV (V.int n) (V.int i) = decide (n = i) := rfl
    rw [e]
    by_cases h : n = i
    · subst h; simp
    · have h2 : ¬ i = n := fun z => h z.symm
      by_cases g : i ∈ ns <;> simp [h, g, h2]
theorem opd_notin {X : Cx} : OpD X (compareOp .NotIn) kNotIn := by
  refine ⟨_, op_notIn_seq, fun x y vx vy F H Qd Q e px py kk q => ?_⟩
  unfold kNotIn at q
  split at q
  · obtain ⟨ns, rfl, q⟩ := q
    cases px.int
    obtain ⟨p, vs, rfl, h1, l1, r1⟩ := py.lst e
    have ev := Reps.ints r1
    subst ev
    refine ⟨p, _, rfl, .inl (SqL.of h1), rfl, ?_, ?_⟩
    · rw [List.all_eq_true]
      intro v hv
      obtain ⟨n, _, rfl⟩ := List.mem_map.mp hv
      rfl
    · rw [inV_ints]
      exact kk _ _ F H (.refl e) (.bl _) q
  · exact q.elim
def freeN (p : Nat) (ps : List Nat) : List Nat := (List.range p).filter fun k => decide (k ∉ ps)
def zG (L : Mat) (ps : List Nat) (q j : Nat) : Int × Int := if j ∈ ps then (0 - L (ps.idxOf j) q, L (ps.idxOf j) j) else (1, 1)
def rgN (n : Nat) (R : Mat) (P : List Nat) : Option (Nat → Int) :=
  if (redG (P.length + 1) n (tM' R P fun _ => 0) P.length).2.length + 1 ≠ P.length then none
  else if ((List.range P.length).map fun j => frX (zG (redG (P.length + 1) n (tM' R P fun _ => 0) P.length).1 (redG (P.length + 1) n (tM' R P fun _ => 0) P.length).2 ((freeN P.length (redG (P.length + 1) n (tM' R P fun _ => 0) P.length).2).getD 0 0) j)).any (fun x => decide (x.1 ≤ 0)) then none
  else some (wN ((List.range P.length).map fun j => frX (zG (redG (P.length + 1) n (tM' R P fun _ => 0) P.length).1 (redG (P.length + 1) n (tM' R P fun _ => 0) P.length).2 ((freeN P.length (redG (P.length + 1) n (tM' R P fun _ => 0) P.length).2).getD 0 0) j)) P
    (wO ((List.range P.length).map fun j => frX (zG (redG (P.length + 1) n (tM' R P fun _ => 0) P.length).1 (redG (P.length + 1) n (tM' R P fun _ => 0) P.length).2 ((freeN P.length (redG (P.length + 1) n (tM' R P fun _ => 0) P.length).2).getD 0 0) j)) 1))
def rgD (m : Nat) : Option (Nat → Int) → D
  | none => .non
  | some N => .lst (tabD m N)
abbrev g_ring_of : DF := fun ds Q _ => ∃ (m n b : Nat) (R : Mat) (P : List Nat), ds = [.lst (matD m (n + 1) R), .lst (psD P), .int n] ∧ okPk m n b R P ∧ 1 ≤ P.length ∧ Q (rgD m (rgN n R P))
abbrev N_ring_of : List Str := ["room", "pick", "many", "left", "places", "free", "k", "parts", "part"]
def tb_ring_of : DS :=
  (dSq (dAsg (dCall 2 [] g_reduced (dCons (dCall 3 [] g_turned_rows (dCons (dVar 0) (dCons (dVar 1) (dCons (dOp kMulB (dTup (dCons (dC (.int 0)) dNil)) (dOp kAdd (dVarP 2) (dC (.int 1)))) dNil)))) (dCons (dCB kLen (dCons (dVarP 1) dNil)) dNil))) (gTp 2 (gCs (gNm 3) (gCs (gNm 4) gNl)))) (dSq (dIf (dTest (dOp kNe (dCB kLen (dCons (dVarP 4) dNil)) (dOp kSub (dCB kLen (dCons (dVarP 1) dNil)) (dC (.int 1))))) (dRet (dC .non)) dNext) (dSq (dSet 5 (dOp kIx (dFz (dLcN (dRng1 (dCB kLen (dCons (dVarP 1) dNil))) (gNm 6) (dTest (dOp kNotIn (dVarP 6) (dVarP 4))) (dVar 6) [6])) (dC (.int 0)))) (dSq (dOwn 7 (dRepN (dLst (dCons (dCall 2 [.int 1] g_fraction (dCons (dC (.int 1)) dNil)) dNil)) (dCB kLen (dCons (dVarP 1) dNil)))) (dSq (dFor (dRng1 (dCB kLen (dCons (dVarP 4) dNil))) (gNm 6) (dPut 7 (dOp kIx (dVarP 4) (dVarP 6)) (dCall 2 [] g_fraction (dCons (dOp kSub (dC (.int 0)) (dOp kIx (dOp kIx (dVarP 3) (dVarP 6)) (dVarP 5))) (dCons (dOp kIx (dOp kIx (dVarP 3) (dVarP 6)) (dOp kIx (dVarP 4) (dVarP 6))) dNil))))) (dFrz 7 (dSq (dIf (dTest (dOp kNe (dFz (dLcN (dSeq (dVar 7)) (gNm 8) (dTest (dOp kLe (dOp kIx (dVarP 8) (dC (.int 0))) (dC (.int 0)))) (dVar 8) [8])) (dLst dNil))) (dRet (dC .non)) dNext) (dRet (dOp kIx (dCall 3 [] g_made_whole (dCons (dVar 7) (dCons (dVar 1) (dCons (dCB kLen (dCons (dVarP 0) dNil)) dNil)))) (dC (.int 1)))))))))))
theorem rd_ring_of (ds : List D) (Q E : EQ) (_ : ds.length = 3) (h : g_ring_of ds Q E) : tb_ring_of (dE Q E) (startD N_ring_of ds) := by
  obtain ⟨m, n, b, R, P, rfl, ok, p1, q⟩ := h
  have n3 := ok.n3
  have p4 := ok.p4
  have pl : (psD P).length = P.length := by unfold psD; rw [List.length_map]
  have ml : (matD m (n + 1) R).length = m := by unfold matD; rw [List.length_map, List.length_range]
  have e4 : eb b P.length ≤ 3900 := by
    have h4 := eb_mono (b := b) p4
    have : eb b 4 = 2 * eb b 3 + 1 := rfl
    have := ok.e3
    omega
  have bT := tM'_bnd (P := P) (tg := fun _ => 0) ok.R fun _ => bnd_zero
  have e : Ech (P.length + 1) n P.length (tM' R P fun _ => 0) (redG (P.length + 1) n (tM' R P fun _ => 0) P.length).1 (redG (P.length + 1) n (tM' R P fun _ => 0) P.length).2 := red_ech (Nat.le_succ _)
  have rb : ∀ i j, bnd 600 ((redG (P.length + 1) n (tM' R P fun _ => 0) P.length).1 i j) := fun i j => bnd_mono (red_bnd bT P.length i j) (Nat.le_trans (eb_mono (Nat.le_trans e.len n3)) ok.e3)
  unfold rgN at q
  unfold tb_ring_of dE
  walk_at "go"
  rw [show ((n : Int) + 1).toNat = n + 1 by omega, tab_rep]
  refine ⟨m, n, R, P, fun _ => 0, rfl, by omega, by omega, ok.lt, ?_⟩
  walk_at "go"
  rw [pl]
  refine ⟨n, P.length + 1, P.length, b, _, rfl, by omega, by omega, by omega, bT, e4, ?_⟩
  generalize (redG (P.length + 1) n (tM' R P fun _ => 0) P.length).1 = L at *
  generalize (redG (P.length + 1) n (tM' R P fun _ => 0) P.length).2 = ps at *
  have psl : (psD ps).length = ps.length := by unfold psD; rw [List.length_map]
  walk_at "go"
  rw [psl, pl]
  by_cases hne : ps.length + 1 ≠ P.length
  · rw [if_pos hne] at q
    rw [decide_eq_false (show ¬ (ps.length : Int) = (P.length : Int) - 1 by omega)]
    walk_at "go"
    exact q
  rw [if_neg hne] at q
  rw [decide_eq_true (show (ps.length : Int) = (P.length : Int) - 1 by omega)]
  have hne : ps.length + 1 = P.length := Classical.byContradiction hne
  have nd := inc_nodup e.inc
  walk_at "go"
  rw [pl, Int.toNat_natCast, irg0]
  refine compL_fil (fun j : Nat => D.int j) (fun j : Nat => D.int j) (fun j => decide (j ∉ ps)) (List.range P.length) (fun j hj K1 K0 h1 h0 => ?_) ?_
  · walk_at "rd"
    refine ⟨ps.map fun k : Nat => (k : Int), by unfold psD; rw [List.map_map]; rfl, ?_⟩
    have ei : ((j : Int) ∈ ps.map fun k : Nat => (k : Int)) ↔ j ∈ ps := by
      constructor
      · intro h
        obtain ⟨k, hk, e⟩ := List.mem_map.mp h
        have : k = j := by omega
        exact this ▸ hk
      · intro h; exact List.mem_map.mpr ⟨j, h, rfl⟩
    by_cases hj2 : j ∈ ps
    · rw [decide_eq_true (ei.mpr hj2)]
      exact h0 (decide_eq_false fun n => n hj2)
    · rw [decide_eq_false (fun z => hj2 (ei.mp z))]
      exact h1 (decide_eq_true hj2)
  obtain ⟨fq, hfq, hf0⟩ : ∃ fq, (freeN P.length ps)[0]? = some fq ∧ (freeN P.length ps).getD 0 0 = fq := by
    obtain ⟨g, g1, g2⟩ := inc_gap e.inc e.lt (by omega)
    have : g ∈ freeN P.length ps := List.mem_filter.mpr ⟨List.mem_range.mpr g1, decide_eq_true g2⟩
    have l0 : 0 < (freeN P.length ps).length := List.length_pos_of_mem this
    exact ⟨(freeN P.length ps)[0], List.getElem?_eq_getElem l0, by rw [List.getD_eq_getElem?_getD, List.getElem?_eq_getElem l0]; rfl⟩
  have fm := List.mem_of_getElem? hfq
  have fq1 : fq < P.length := List.mem_range.mp (List.mem_filter.mp fm).1
  have e5 : atI (((List.range P.length).filter fun j => decide (j ∉ ps)).map fun j : Nat => D.int j) 0 = some (.int fq) := by
    rw [show (0 : Int) = ((0 : Nat) : Int) from rfl, atI_nn, List.getElem?_map]
    show Option.map _ (freeN P.length ps)[0]? = _
    rw [hfq]
    rfl
  rw [hf0] at q
  walk_at "rd"
  rw [e5]
  walk_at "go"
  refine ⟨1, 1, rfl, by decide, bnd_one (by decide), ?_⟩
  walk_at "go"
  rw [pl, Int.toNat_natCast, rep_rng]
  refine ⟨few_of (by rw [List.length_map, List.length_range]; omega), ?_⟩
  walk_at "go"
  rw [psl, Int.toNat_natCast, irg0]
  have e6 : ((List.range P.length).map fun _ => fr 1 1) = (List.range P.length).map fun j => if j ∈ ps.take 0 then frP (zG L ps fq j) else fr 1 1 := List.map_congr_left fun j _ => by rw [List.take_zero, if_neg List.not_mem_nil]
  rw [e6]
  refine loop_ix (fun k ρ => ∃ s6 : Sl, ρ = [.sh (.lst (matD m (n + 1) R)), .sh (.lst (psD P)), .sh (.int n), .sh (.lst (matD n (P.length + 1) L)), .sh (.lst (psD ps)), .sh (.int fq), s6, .ow ((List.range P.length).map fun j => if j ∈ ps.take k then frP (zG L ps fq j) else fr 1 1), .no]) _ ?_ ?_ ⟨_, rfl⟩
  case refine_2 =>
    rintro k x ρ hx ⟨s6, rfl⟩ N hN
    obtain ⟨hk, rfl⟩ := rng_inv hx
    have hpk : ps[k]? = some ps[k] := List.getElem?_eq_getElem hk
    have pc := e.lt _ (List.getElem_mem hk)
    have kn : k < n := by have := e.len; omega
    have rowk : atI (matD n (P.length + 1) L) (k : Int) = some (.tup (tabD (P.length + 1) (L k))) := by rw [atI_nn]; exact rng_get kn
    obtain ⟨v1, v2⟩ := e.piv k _ hpk
    walk_at "rd"
    rw [rowk]
    walk_at "rd"
    rw [atI_nn, tab_get (by omega)]
    walk_at "go"
    rw [rowk]
    walk_at "rd"
    rw [ps_get hpk]
    walk_at "rd"
    rw [atI_nn, tab_get (by omega)]
    walk_at "go"
    refine ⟨_, _, rfl, v1, bnd_mono (rb _ _) (by decide), ?_⟩
    walk_at "rd"
    rw [ps_get hpk]
    walk_at "rd"
    rw [List.length_map, List.length_range, ixN_nn pc]
    walk_at "rd"
    have e7 : ((List.range P.length).map fun j => if j ∈ ps.take k then frP (zG L ps fq j) else fr 1 1).set ps[k] (fr (0 - L k fq) (L k ps[k])) = (List.range P.length).map fun j => if j ∈ ps.take (k + 1) then frP (zG L ps fq j) else fr 1 1 := by
      rw [rng_set]
      refine List.map_congr_left fun j _ => ?_
      rw [List.take_succ, hpk, show (some ps[k]).toList = [ps[k]] from rfl]
      by_cases h : j = ps[k]
      · subst h
        rw [if_pos rfl, if_pos (List.mem_append_right _ List.mem_cons_self)]
        unfold zG
        rw [if_pos (List.getElem_mem hk), idx_of nd hpk]
        rfl
      · rw [if_neg h]
        by_cases g : j ∈ ps.take k
        · rw [if_pos g, if_pos (List.mem_append_left _ g)]
        · rw [if_neg g, if_neg (fun u => (List.mem_append.mp u).elim g fun v => h (List.mem_singleton.mp v))]
    rw [e7]
    exact hN _ ⟨_, rfl⟩
  rintro ρ ⟨s6, rfl⟩
  rw [List.length_map, List.length_range, List.take_length]
  have e8 : ((List.range P.length).map fun j => if j ∈ ps then frP (zG L ps fq j) else fr 1 1) = ((List.range P.length).map fun j => frX (zG L ps fq j)).map prD := by
    rw [List.map_map]
    refine List.map_congr_left fun j _ => ?_
    by_cases h : j ∈ ps
    · rw [if_pos h]; rfl
    · rw [if_neg h]
      show fr 1 1 = frP (zG L ps fq j)
      unfold zG
      rw [if_neg h]
      rfl
  rw [e8]
  have hW : okW ((List.range P.length).map fun j => frX (zG L ps fq j)) := fun x hx => by
    obtain ⟨j, hj, rfl⟩ := List.mem_map.mp hx
    have ok2 : (zG L ps fq j).2 ≠ 0 ∧ bnd 600 (zG L ps fq j).1 ∧ bnd 600 (zG L ps fq j).2 := by
      unfold zG
      by_cases h : j ∈ ps
      · rw [if_pos h]
        obtain ⟨i, hi⟩ := List.getElem?_of_mem h
        rw [idx_of nd hi]
        exact ⟨(e.piv i j hi).1, bnd_le (y := L i fq) (by show (0 - L i fq).natAbs ≤ _; omega) (rb _ _), rb _ _⟩
      · rw [if_neg h]
        exact ⟨by decide, bnd_one (by decide), bnd_one (by decide)⟩
    have f := frX_ok ok2.1
    exact ⟨f.1, bnd_le f.2.2.2.1 ok2.2.1, bnd_le f.2.2.2.2 ok2.2.2⟩
  have xl : ((List.range P.length).map fun j => frX (zG L ps fq j)).length = P.length := by rw [List.length_map, List.length_range]
  generalize ((List.range P.length).map fun j => frX (zG L ps fq j)) = xs at *
  walk_at "go"
  refine compL_fil prD prD (fun x => decide (x.1 ≤ 0)) xs (fun x hx K1 K0 h1 h0 => ?_) ?_
  · unfold prD pr
    walk_at "rd"
    by_cases hz : x.1 ≤ 0
    · rw [decide_eq_true hz]
      exact h1 (decide_eq_true hz)
    · rw [decide_eq_false hz]
      exact h0 (decide_eq_false hz)
  walk_at "go"
  refine ⟨plain_of (okk_pts _), plain_of (show (D.lst []).okk 64 = true from rfl), ?_⟩
  by_cases ha : xs.any (fun x => decide (x.1 ≤ 0)) = true
  · rw [if_pos ha] at q
    have ne : xs.filter (fun x => decide (x.1 ≤ 0)) ≠ [] := fun z => by
      obtain ⟨x, hx, h⟩ := List.any_eq_true.mp ha
      have : x ∈ xs.filter (fun x => decide (x.1 ≤ 0)) := List.mem_filter.mpr ⟨hx, h⟩
      rw [z] at this
      cases this
    rw [eqv_pts ne]
    walk_at "go"
    exact q
  · rw [if_neg ha] at q
    have e0 : xs.filter (fun x => decide (x.1 ≤ 0)) = [] := List.filter_eq_nil_iff.mpr fun x hx h => ha (List.any_eq_true.mpr ⟨x, hx, h⟩)
    rw [e0]
    walk_at "go"
    rw [ml]
    refine ⟨m, P, xs, rfl, xl, ok.nd, ok.lt, by have := ok.m14; omega, by omega, hW, ?_⟩
    walk_at "go"
    exact q
end Dl

/-! The D-layer, part 50: the most: empty rooms. -/
namespace Dl
open PySem PySem.Spec
open PyProof.Rows L2
local macro_rules | `(tactic| walk_at "rd") => `(tactic| ((conv => whnf); (try dsimp only [startD, wipeD, q_map_cons, q_map_nil, q_app_cons, q_app_nil, q_len_cons, q_len_nil, q_rep_0, q_rep_s, q_get_0, q_get_s, q_set_0, q_set_s, ifP_t, ifP_f, Nat.reduceAdd, Nat.reduceSub, Int.reduceToNat, Int.reducePow, Int.reduceAdd, Int.reduceMul])))
local macro_rules | `(tactic| walk_at "bx") => `(tactic| first | with_reducible assumption | (apply bnd_mul <;> walk_at "bx") | (apply bnd_addM <;> walk_at "bx") | (apply bnd_subM <;> walk_at "bx") | (apply bnd_negM <;> walk_at "bx") | exact bnd_lit (k := 8) (by decide) | exact bnd_lit (k := 64) (by decide) | (with_reducible (apply_assumption)))
local macro_rules | `(tactic| walk_at "bd") => `(tactic| first | with_reducible assumption | (apply bnd_mono; (walk_at "bx"); first | omega | decide))
local macro_rules | `(tactic| walk_at "sd") => `(tactic| first | with_reducible assumption | omega | with_reducible rfl | exact (rfl : (_ : Bool) = true) | exact (rfl : @Eq (Option D) _ none) | decide | exact few_of (by decide) | exact divOk_small (by decide) (by decide +kernel) | exact mulOk_r (by omega) (by omega) | exact mulOk_l (by omega) (by omega) | ((with_reducible apply mul_of); (walk_at "bx"); (walk_at "bx"); first | omega | decide) | exact few_of (by simp only [List.length_append, List.length_map, List.length_cons, List.length_nil, tab_len, List.length_replicate]; omega))
local macro_rules | `(tactic| walk_at "go") => `(tactic| ((try walk_at "rd"); (repeat (refine And.intro (by walk_at "sd") ?_; try walk_at "rd"))))
theorem choN_tl (t : Nat) : ∀ m, ∃ tl, choN t m = [] :: tl ∧ ∀ P ∈ tl, P ≠ []
  | 0 => ⟨[], rfl, fun P hP => nomatch hP⟩
  | m + 1 => by
    obtain ⟨tl, h1, h2⟩ := choN_tl t m
    unfold choN
    rw [h1]
    refine ⟨tl ++ (([] :: tl).filter fun P => decide (P.length < t)).map (· ++ [m]), rfl, fun P hP => ?_⟩
    rcases List.mem_append.mp hP with hP | hP
    · exact h2 P hP
    · obtain ⟨Q, _, rfl⟩ := List.mem_map.mp hP
      exact fun z => nomatch (List.append_eq_nil_iff.mp z).2
theorem wN_bnd {xs : List (Int × Int)} {P : List Nat} (h : okW xs) (hl : xs.length ≤ 4) (j : Nat) : bnd 4000 (wN xs P (wO xs 1) j) := by
  obtain ⟨w1, w2, w3, w4⟩ := wO_ok xs 1 1 h (by decide) (bnd_one (by decide))
  unfold wN
  split
  · rw [List.getD_eq_getElem?_getD]
    cases hx : xs[P.idxOf j]? with
    | none => exact bnd_mono (bnd_mul (j := 1) (k := 3000) (bnd_zero) (bnd_le (fdiv_le (by decide)) (bnd_mono w4 (by omega)))) (by decide)
    | some x =>
      obtain ⟨x1, x2, x3⟩ := h x (List.mem_of_getElem? hx)
      exact bnd_mono (bnd_mul (j := 600) (k := 3000) x2 (bnd_le (fdiv_le (by show 1 ≤ x.2; omega)) (bnd_mono w4 (by omega)))) (by decide)
  · exact bnd_zero
theorem zG_okW {n p b : Nat} {T : Mat} (hb : ∀ i j, bnd b (T i j)) (hm : eb b n ≤ 600) (q : Nat) : okW ((List.range p).map fun j => frX (zG (redG (p + 1) n T p).1 (redG (p + 1) n T p).2 q j)) := fun x hx => by
  obtain ⟨j, hj, rfl⟩ := List.mem_map.mp hx
  have e : Ech (p + 1) n p T (redG (p + 1) n T p).1 (redG (p + 1) n T p).2 := red_ech (Nat.le_succ p)
  have rb : ∀ i j, bnd 600 ((redG (p + 1) n T p).1 i j) := fun i j => bnd_mono (red_bnd hb p i j) (Nat.le_trans (eb_mono e.len) hm)
  generalize (redG (p + 1) n T p).1 = L at *
  generalize (redG (p + 1) n T p).2 = ps at *
  have ok2 : (zG L ps q j).2 ≠ 0 ∧ bnd 600 (zG L ps q j).1 ∧ bnd 600 (zG L ps q j).2 := by
    unfold zG
    by_cases h : j ∈ ps
    · rw [if_pos h]
      obtain ⟨i, hi⟩ := List.getElem?_of_mem h
      rw [idx_of (inc_nodup e.inc) hi]
      exact ⟨(e.piv i j hi).1, bnd_le (y := L i q) (by show (0 - L i q).natAbs ≤ _; omega) (rb _ _), rb _ _⟩
    · rw [if_neg h]
      exact ⟨by decide, bnd_one (by decide), bnd_one (by decide)⟩
  have f := frX_ok ok2.1
  exact ⟨f.1, bnd_le f.2.2.2.1 ok2.2.1, bnd_le f.2.2.2.2 ok2.2.2⟩
theorem rgN_bnd {m n b : Nat} {R : Mat} {P : List Nat} (ok : okPk m n b R P) {N : Nat → Int} (h : rgN n R P = some N) (j : Nat) : bnd 4000 (N j) := by
  unfold rgN at h
  split at h
  · cases h
  · split at h
    · cases h
    · cases h
      exact wN_bnd (zG_okW (tM'_bnd ok.R fun _ => bnd_zero) (Nat.le_trans (eb_mono ok.n3) ok.e3) _) (by rw [List.length_map, List.length_range]; exact ok.p4) j
/-! ### empty rooms -/
def emF (m n : Nat) (R : Mat) : List (List Nat) → Option (Nat → Int)
  | [] => none
  | P :: Ps => match rgN n R P with
    | none => emF m n R Ps
    | some N => if dot (fun i => R i n) N m < 0 then some N else emF m n R Ps
def emN (m n : Nat) (R : Mat) : Option (Nat → Int) := emF m n R ((choN (n + 1) m).drop 1)
def emD (m : Nat) : Option (Nat → Int) → D
  | none => .non
  | some N => .tup [.int 0, .lst (tabD m N)]
structure okRm (m n b : Nat) (R : Mat) : Prop where
  n1 : 1 ≤ n
  n3 : n ≤ 3
  m14 : m ≤ 14
  R : ∀ i j, bnd b (R i j)
  e3 : eb b 3 ≤ 600
  b5 : b ≤ 5000
abbrev g_empty_by : DF := fun ds Q _ => ∃ (m n b : Nat) (R : Mat), ds = [.lst (matD m (n + 1) R), .int n] ∧ okRm m n b R ∧ Q (emD m (emN m n R))
abbrev N_empty_by : List Str := ["room", "many", "pick", "numbers"]
def tb_empty_b : DS := (dSq (dSet 3 (dCall 3 [] g_ring_of (dCons (dVar 0) (dCons (dVar 2) (dCons (dVar 1) dNil))))) (dIf (dAnd (dTest (dOp kIsNot (dVarP 3) (dC .non))) (dTest (dOp kLt (dOp kIx (dCall 3 [] g_addedM (dCons (dVar 0) (dCons (dVar 3) (dCons (dVar 1) dNil)))) (dNeg (dC (.int 1)))) (dC (.int 0))))) (dRet (dTup (dCons (dC (.int 0)) (dCons (dVar 3) dNil)))) dNext))
def tb_empty_by : DS :=
  (dSq (dFor (dSeq (dSl (dCall 2 [] g_choices (dCons (dCB kLen (dCons (dVarP 0) dNil)) (dCons (dOp kAdd (dVarP 1) (dC (.int 1))) dNil))) (dPart (dC (.int 1))) dNoPart)) (gNm 2) tb_empty_b) (dRet (dC .non)))
theorem empty_loop {Q E : EQ} {m n b : Nat} {R : Mat} (ok : okRm m n b R) {nx : Env' → Prop} : ∀ (Ps : List (List Nat)) (s2 s3 : Sl), (∀ P ∈ Ps, P ≠ [] ∧ P.Pairwise (· < ·) ∧ (∀ k ∈ P, k < m) ∧ P.length ≤ n + 1) →
    (emF m n R Ps = none → ∀ s2 s3, nx [.sh (.lst (matD m (n + 1) R)), .sh (.int n), s2, s3]) → (∀ N, emF m n R Ps = some N → Q (.tup [.int 0, .lst (tabD m N)])) →
    loopD (gNm 2) tb_empty_b { dE Q E with nx := nx } (Ps.map fun P => .lst (psD P)) [.sh (.lst (matD m (n + 1) R)), .sh (.int n), s2, s3]
  | [], s2, s3, _, h0, _ => lp_nil (h0 rfl _ _)
  | P :: Ps, s2, s3, hP, h0, h1 => by
    obtain ⟨p1, p2, p3, p4⟩ := hP P List.mem_cons_self
    have n3 := ok.n3
    have okp : okPk m n b R P := ⟨ok.n3, ok.m14, inc_nodup p2, p3, by omega, ok.R, ok.e3⟩
    have again : rgN n R P = none ∨ (∃ N, rgN n R P = some N ∧ ¬ dot (fun i => R i n) N m < 0) → ∀ s2 s3, loopD (gNm 2) tb_empty_b { dE Q E with nx := nx } (Ps.map fun P => .lst (psD P)) [.sh (.lst (matD m (n + 1) R)), .sh (.int n), s2, s3] := fun hh s2 s3 => by
      have e : emF m n R (P :: Ps) = emF m n R Ps := by
        rcases hh with h | ⟨N, h, hn⟩
        · show (match rgN n R P with | none => _ | some N => _) = _
          rw [h]
        · show (match rgN n R P with | none => _ | some N => _) = _
          rw [h]
          exact if_neg hn
      rw [e] at h0 h1
      exact empty_loop ok Ps s2 s3 (fun q hq => hP q (List.mem_cons_of_mem _ hq)) h0 h1
    rw [List.map_cons]
    refine lp_cons ?_
    unfold tb_empty_b at again ⊢
    unfold dE at again ⊢
    walk_at "go"
    refine ⟨m, n, b, R, P, rfl, okp, List.length_pos_iff.mpr p1, ?_⟩
    cases hr : rgN n R P with
    | none =>
      unfold rgD
      walk_at "go"
      exact again (.inl hr) _ _
    | some N =>
      unfold rgD
      walk_at "go"
      refine ⟨m, n, R, N, rfl, by omega, by have := ok.m14; omega, fun j => bnd_mono (rgN_bnd okp hr j) (by decide), fun i j => bnd_mono (ok.R i j) ok.b5, ?_⟩
      walk_at "rd"
      rw [tab_last]
      walk_at "rd"
      by_cases hd : dot (fun i => R i n) N m < 0
      · rw [decide_eq_true hd]
        walk_at "go"
        exact h1 N (by show (match rgN n R P with | none => _ | some N => _) = _; rw [hr]; exact if_pos hd)
      · rw [decide_eq_false hd]
        walk_at "go"
        exact again (.inr ⟨N, hr, hd⟩) _ _
theorem rd_empty_by (ds : List D) (Q E : EQ) (_ : ds.length = 2) (h : g_empty_by ds Q E) : tb_empty_by (dE Q E) (startD N_empty_by ds) := by
  obtain ⟨m, n, b, R, rfl, ok, q⟩ := h
  have ml : (matD m (n + 1) R).length = m := by unfold matD; rw [List.length_map, List.length_range]
  obtain ⟨tl, t1, t2⟩ := choN_tl (n + 1) m
  unfold tb_empty_by dE
  walk_at "go"
  rw [ml]
  refine ⟨m, n + 1, rfl, ok.m14, ?_⟩
  walk_at "go"
  rw [cut_map, show (1 : Int) = ((1 : Nat) : Int) from rfl, cut_drop]
  refine empty_loop ok ((choN (n + 1) m).drop 1) _ _ (fun P hP => ?_) (fun e s2 s3 => ?_) fun N e => ?_
  · have hm := choN_mem.mp (List.mem_of_mem_drop hP)
    rw [t1] at hP
    exact ⟨t2 P hP, hm⟩
  · walk_at "go"
    unfold emN at q
    rw [e] at q
    exact q
  · unfold emN at q
    rw [e] at q
    exact q
end Dl

/-! The D-layer, part 51: rows along points of at most three greater numbers (from parts 16 to 19, by a program). -/
namespace Dl
open PySem PySem.Spec
open PyProof.Rows L2
local macro_rules | `(tactic| walk_at "rd") => `(tactic| ((conv => whnf); (try dsimp only [startD, wipeD, q_map_cons, q_map_nil, q_app_cons, q_app_nil, q_len_cons, q_len_nil, q_rep_0, q_rep_s, q_get_0, q_get_s, q_set_0, q_set_s, ifP_t, ifP_f, Nat.reduceAdd, Nat.reduceSub, Int.reduceToNat, Int.reducePow, Int.reduceAdd, Int.reduceMul])))
local macro_rules | `(tactic| walk_at "bx") => `(tactic| first | with_reducible assumption | (apply bnd_mul <;> walk_at "bx") | (apply bnd_addM <;> walk_at "bx") | (apply bnd_subM <;> walk_at "bx") | (apply bnd_negM <;> walk_at "bx") | exact bnd_lit (k := 8) (by decide) | exact bnd_lit (k := 64) (by decide) | (with_reducible (apply_assumption)))
local macro_rules | `(tactic| walk_at "bd") => `(tactic| first | with_reducible assumption | (apply bnd_mono; (walk_at "bx"); first | omega | decide))
local macro_rules | `(tactic| walk_at "sd") => `(tactic| first | with_reducible assumption | omega | with_reducible rfl | exact (rfl : (_ : Bool) = true) | exact (rfl : @Eq (Option D) _ none) | decide | exact few_of (by decide) | exact divOk_small (by decide) (by decide +kernel) | exact mulOk_r (by omega) (by omega) | exact mulOk_l (by omega) (by omega) | ((with_reducible apply mul_of); (walk_at "bx"); (walk_at "bx"); first | omega | decide) | exact few_of (by simp only [List.length_append, List.length_map, List.length_cons, List.length_nil, tab_len, List.length_replicate]; omega))
local macro_rules | `(tactic| walk_at "go") => `(tactic| ((try walk_at "rd"); (repeat (refine And.intro (by walk_at "sd") ?_; try walk_at "rd"))))
def okRow3 (n : Nat) (r : List Int × Int) : Prop := r.1.length = n ∧ okR 600 r.1 ∧ bnd 600 r.2
theorem wsF_bnd3 : ∀ (rs : List Int) (ps : List (Int × Int)) (T B : Int) (k : Nat), k + ps.length ≤ 3 → bnd (1200 + 602 * k) T → bnd (600 * k + 1) B → okR 600 rs → okP 600 ps → bnd 3400 (wsF rs ps T B).1 ∧ bnd 2800 (wsF rs ps T B).2
  | [], ps, T, B, k, hk, hT, hB, _, _ => by unfold wsF; exact ⟨bnd_mono hT (by omega), bnd_mono hB (by omega)⟩
  | r :: rs, [], T, B, k, hk, hT, hB, _, _ => by rw [List.length_nil] at hk; unfold wsF; exact ⟨bnd_mono hT (by omega), bnd_mono hB (by omega)⟩
  | r :: rs, p :: ps, T, B, k, hk, hT, hB, hr, hp => by
    rw [List.length_cons] at hk
    obtain ⟨p0, p1, p2⟩ := hp p List.mem_cons_self
    have r1 := hr r List.mem_cons_self
    unfold wsF
    refine wsF_bnd3 rs ps _ _ (k + 1) (by omega) ?_ ?_ (fun q hq => hr q (List.mem_cons_of_mem _ hq)) fun q hq => hp q (List.mem_cons_of_mem _ hq)
    · exact bnd_mono (bnd_add (k := 1801 + 602 * k) (bnd_mono (bnd_mul hT p2) (by omega)) (bnd_mono (bnd_mul (bnd_mul r1 p1) hB) (by omega))) (by omega)
    · exact bnd_mono (bnd_mul hB p2) (by omega)
abbrev g_along3 : DF := fun ds Q _ => ∃ (rs : List Int) (ps : List (Int × Int)) (row : D), ds = [row, .lst (ps.map prD)] ∧ (row = .tup (rs.map .int) ∨ row = .lst (rs.map .int)) ∧ ps.length ≤ 3 ∧ okR 600 rs ∧ okP 600 ps ∧
  Q (fr (wsF rs ps 0 1).1 (wsF rs ps 0 1).2)
abbrev N_along3 : List Str := ["row", "point", "found", "share", "number"]
def tb_along3 : DS :=
  (dSq (dSet 2 (dCall 2 [.int 1] g_fraction (dCons (dC (.int 0)) dNil))) (dSq (dFor (dZip (dVar 0) (dVar 1)) (gTp 2 (gCs (gNm 3) (gCs (gNm 4) gNl))) (dSet 2 (dCall 2 [] g_plus (dCons (dVar 2) (dCons (dCall 2 [] g_times (dCons (dCall 2 [.int 1] g_fraction (dCons (dVar 3) dNil)) (dCons (dVar 4) dNil))) dNil))))) (dRet (dVar 2))))
theorem along_loop3 {d : DE} {a b : Sl} : ∀ (rs : List Int) (ps : List (Int × Int)) (T B : Int) (k : Nat) (s3 s4 : Sl), k + ps.length ≤ 3 → 0 < B → bnd (1200 + 602 * k) T → bnd (600 * k + 1) B → okR 600 rs → okP 600 ps →
    (∀ s3 s4, d.nx [a, b, .sh (fr (wsF rs ps T B).1 (wsF rs ps T B).2), s3, s4]) →
    loopD (gTp 2 (gCs (gNm 3) (gCs (gNm 4) gNl))) (dSet 2 (dCall 2 [] g_plus (dCons (dVar 2) (dCons (dCall 2 [] g_times (dCons (dCall 2 [.int 1] g_fraction (dCons (dVar 3) dNil)) (dCons (dVar 4) dNil))) dNil)))) d
      (pairs (rs.map .int) (ps.map prD)) [a, b, .sh (fr T B), s3, s4]
  | [], ps, T, B, k, s3, s4, hk, h0, hT, hB, hr, hp, h => lp_nil (h s3 s4)
  | r :: rs, [], T, B, k, s3, s4, hk, h0, hT, hB, hr, hp, h => lp_nil (h s3 s4)
  | r :: rs, p :: ps, T, B, k, s3, s4, hk, h0, hT, hB, hr, hp, h => by
    rw [List.length_cons] at hk
    obtain ⟨p0, p1, p2⟩ := hp p List.mem_cons_self
    have r1 := hr r List.mem_cons_self
    refine lp_cons ?_
    unfold prD
    walk_at "go"
    refine ⟨r, 1, rfl, by decide, by unfold bnd; exact Nat.one_lt_two_pow (by decide), ?_⟩
    rw [fr_one]
    walk_at "go"
    refine ⟨r, 1, p.1, p.2, rfl, by decide, p0, bnd_mono r1 (by decide), by unfold bnd; exact Nat.one_lt_two_pow (by decide), bnd_mono p1 (by decide), bnd_mono p2 (by decide), ?_⟩
    rw [Int.one_mul]
    walk_at "go"
    obtain ⟨x1, x2, x3⟩ := fr_bnds h0 (bnd_mono (k := 4000) hT (by omega)) (bnd_mono (k := 4000) hB (by omega))
    obtain ⟨y1, y2, y3⟩ := fr_bnds (t := r * p.1) p0 (bnd_mono (k := 4000) (bnd_mul r1 p1) (by omega)) (bnd_mono (k := 4000) p2 (by omega))
    refine ⟨_, _, _, _, rfl, x1, y1, x2, x3, y2, y3, ?_⟩
    have c1 := fr_cross T h0
    have c2 := fr_cross (r * p.1) p0
    have e : fr (T.fdiv (shr T B) * p.2.fdiv (shr (r * p.1) p.2) + (r * p.1).fdiv (shr (r * p.1) p.2) * B.fdiv (shr T B)) (B.fdiv (shr T B) * p.2.fdiv (shr (r * p.1) p.2)) = fr (T * p.2 + r * p.1 * B) (B * p.2) := by
      refine fr_eq (Int.mul_pos x1 y1) (Int.mul_pos h0 p0) ?_
      generalize T.fdiv (shr T B) = u at *
      generalize B.fdiv (shr T B) = v at *
      generalize (r * p.1).fdiv (shr (r * p.1) p.2) = u' at *
      generalize p.2.fdiv (shr (r * p.1) p.2) = v' at *
      rw [Int.add_mul, Int.add_mul]
      have a1 : u * v' * (B * p.2) = (u * B) * (v' * p.2) := by ac_rfl
      have a2 : u' * v * (B * p.2) = (u' * p.2) * (v * B) := by ac_rfl
      rw [a1, a2, c1, c2]
      ac_rfl
    rw [e]
    walk_at "go"
    refine along_loop3 rs ps _ _ (k + 1) _ _ (by omega) (Int.mul_pos h0 p0) ?_ ?_ (fun q hq => hr q (List.mem_cons_of_mem _ hq)) (fun q hq => hp q (List.mem_cons_of_mem _ hq)) h
    · exact bnd_mono (bnd_add (k := 1801 + 602 * k) (bnd_mono (bnd_mul hT p2) (by omega)) (bnd_mono (bnd_mul (bnd_mul r1 p1) hB) (by omega))) (by omega)
    · exact bnd_mono (bnd_mul hB p2) (by omega)
theorem rd_along3 (ds : List D) (Q E : EQ) (_ : ds.length = 2) (h : g_along3 ds Q E) : tb_along3 (dE Q E) (startD N_along3 ds) := by
  obtain ⟨rs, ps, row, rfl, hrow, hl, hr, hp, q⟩ := h
  unfold tb_along3 dE
  walk_at "go"
  refine ⟨0, 1, rfl, by decide, bnd_one (by decide), ?_⟩
  rcases hrow with rfl | rfl
  · walk_at "go"
    exact along_loop3 rs ps 0 1 0 _ _ (by omega) (by decide) bnd_zero (bnd_one (by decide)) hr hp fun s3 s4 => q
  · walk_at "go"
    exact along_loop3 rs ps 0 1 0 _ _ (by omega) (by decide) bnd_zero (bnd_one (by decide)) hr hp fun s3 s4 => q
abbrev g_holds3 : DF := fun ds Q _ => ∃ (rs : List Int) (b : Int) (ps : List (Int × Int)) (row : D), ds = [row, ptsD ps] ∧ isRow row (rs ++ [b]) ∧ rs.length = ps.length ∧ ps.length ≤ 3 ∧ okR 600 rs ∧ bnd 600 b ∧ okP 600 ps ∧ Q (.bl (hld rs b ps))
abbrev N_holds3 : List Str := ["row", "point"]
def tb_holds3 : DS :=
  (dRet (dNotV (dCall 2 [] g_under (dCons (dCall 2 [.int 1] g_fraction (dCons (dOp kIx (dVarP 0) (dNeg (dC (.int 1)))) dNil)) (dCons (dCall 2 [] g_along3 (dCons (dVar 0) (dCons (dVar 1) dNil))) dNil)))))
theorem rd_holds3 (ds : List D) (Q E : EQ) (_ : ds.length = 2) (h : g_holds3 ds Q E) : tb_holds3 (dE Q E) (startD N_holds3 ds) := by
  obtain ⟨rs, b, ps, row, rfl, hrow, hl, h9, hr, hb, hp, q⟩ := h
  have e1 : (fun Q => asO Q (atI ((rs ++ [b]).map D.int) (-1))) = fun Q => Q (.int b) := by rw [atI_last]; rfl
  have w0 := wsF_pos rs ps 0 1 (by decide) fun p hp' => (hp p hp').1
  obtain ⟨w1, w2⟩ := wsF_bnd3 rs ps 0 1 0 (by omega) bnd_zero (bnd_one (by decide)) hr hp
  obtain ⟨x1, x2, x3⟩ := fr_bnds w0 (bnd_mono (k := 4000) w1 (by decide)) (bnd_mono (k := 4000) w2 (by decide))
  have cr := fr_cross (wsF rs ps 0 1).1 w0
  unfold tb_holds3 dE
  unfold hld at q
  have fin : ∀ row : D, isRow row (rs ++ [b]) → kIx row (.int (-1)) = (fun Q => Q (.int b)) → dRet (dNotV (dCall 2 [] g_under (dCons (dCall 2 [.int 1] g_fraction (dCons (dOp kIx (dVarP 0) (dNeg (dC (.int 1)))) dNil)) (dCons (dCall 2 [] g_along3 (dCons (dVar 0) (dCons (dVar 1) dNil))) dNil)))) (dE Q E) [.sh row, .sh (ptsD ps)] := fun row hr2 hx => by
    unfold dRet dNotV dE dCall dCons dNil dOp dVarP dNeg dC
    walk_at "rd"
    show kIx row (.int (-1)) _
    rw [hx]
    walk_at "go"
    refine ⟨b, 1, rfl, by decide, bnd_one (by decide), ?_⟩
    rw [fr_one]
    walk_at "go"
    refine ⟨rs ++ [b], ps, row, rfl, hr2, h9, okR_snoc hr hb, hp, ?_⟩
    rw [wsF_snoc rs b ps 0 1 hl]
    walk_at "go"
    refine ⟨b, 1, _, _, rfl, bnd_mono hb (by decide), bnd_one (by decide), x2, x3, ?_⟩
    walk_at "rd"
    rw [Int.mul_one]
    generalize (wsF rs ps 0 1).1 = T at *
    generalize (wsF rs ps 0 1).2 = B at *
    generalize T.fdiv (shr T B) = u at *
    generalize B.fdiv (shr T B) = v at *
    have e : (!decide (b * v < u)) = decide (T ≤ b * B) := by
      have i1 : (b * v < u) ↔ (b * B < T) := by
        have z1 : b * v < u ↔ (b * v) * B < u * B := ⟨fun h => Int.mul_lt_mul_of_pos_right h w0, fun h => Int.lt_of_mul_lt_mul_right h (Int.le_of_lt w0)⟩
        have z2 : b * B < T ↔ (b * B) * v < T * v := ⟨fun h => Int.mul_lt_mul_of_pos_right h x1, fun h => Int.lt_of_mul_lt_mul_right h (Int.le_of_lt x1)⟩
        rw [z1, z2, cr, show b * v * B = b * B * v by ac_rfl]
      by_cases h : b * v < u
      · have := i1.mp h
        rw [decide_eq_true h, decide_eq_false (by omega)]
        rfl
      · have : ¬ b * B < T := fun z => h (i1.mpr z)
        rw [decide_eq_false h, decide_eq_true (by omega)]
        rfl
    rw [e]
    exact q
  rcases hrow with rfl | rfl
  · exact fin _ (.inl rfl) e1
  · exact fin _ (.inr rfl) e1
abbrev g_lies_in3 : DF := fun ds Q _ => ∃ (rl : List (List Int × Int)) (ps : List (Int × Int)), ds = [.lst (rl.map rowT), ptsD ps] ∧ ps.length ≤ 3 ∧ okP 600 ps ∧ (∀ r ∈ rl, okRow3 ps.length r) ∧ Q (.bl (rl.all fun r => hld r.1 r.2 ps))
abbrev N_lies_in3 : List Str := ["room", "point", "row"]
def tb_lies_in3 : DS :=
  (dRet (dCB kAll (dCons (dFz (dLcN (dSeq (dVar 0)) (gNm 2) dYes (dCall 2 [] g_holds3 (dCons (dVar 2) (dCons (dVar 1) dNil))) [2])) dNil)))
theorem rd_lies_in3 (ds : List D) (Q E : EQ) (_ : ds.length = 2) (h : g_lies_in3 ds Q E) : tb_lies_in3 (dE Q E) (startD N_lies_in3 ds) := by
  obtain ⟨rl, ps, rfl, h9, hp, hr, q⟩ := h
  unfold tb_lies_in3 dE
  walk_at "go"
  have go : ∀ (rl : List (List Int × Int)) (acc : List Bool), (∀ r ∈ rl, okRow3 ps.length r) → ∀ Q' : List D → Prop, Q' ((acc ++ rl.map fun r => hld r.1 r.2 ps).map .bl) →
      ∀ ρ : Env', ρ.length = 3 → ρ[1]? = some (.sh (ptsD ps)) → compR (gNm 2) dYes (dCall 2 [] g_holds3 (dCons (dVar 2) (dCons (dVar 1) dNil))) ρ Q' (rl.map rowT) (acc.map .bl) := by
    intro rl
    induction rl with
    | nil =>
      intro acc _ Q' q ρ _ _
      rw [List.map_nil, List.append_nil] at q
      exact q
    | cons r rl ih =>
      intro acc hr Q' q ρ hl h1
      obtain ⟨r1, r2, r3⟩ := hr r List.mem_cons_self
      match ρ, hl, h1 with
      | [a, b, c], _, h1 =>
        cases h1
        rw [List.map_cons]
        unfold compR
        walk_at "go"
        refine ⟨r.1, r.2, ps, rowT r, rfl, .inl rfl, r1, h9, r2, r3, hp, ?_⟩
        have := ih (acc ++ [hld r.1 r.2 ps]) (fun q hq => hr q (List.mem_cons_of_mem _ hq)) Q' (by rw [List.append_assoc]; exact q) [a, .sh (ptsD ps), c] rfl rfl
        rw [List.map_append] at this
        exact this
  refine ⟨go rl [] hr _ ?_ _ rfl rfl⟩
  walk_at "go"
  rw [blsOf_map]
  walk_at "rd"
  rw [List.all_map]
  exact q
end Dl

/-! The D-layer, part 52: corners. -/
namespace Dl
open PySem PySem.Spec
open PyProof.Rows L2
local macro_rules | `(tactic| walk_at "rd") => `(tactic| ((conv => whnf); (try dsimp only [startD, wipeD, q_map_cons, q_map_nil, q_app_cons, q_app_nil, q_len_cons, q_len_nil, q_rep_0, q_rep_s, q_get_0, q_get_s, q_set_0, q_set_s, ifP_t, ifP_f, Nat.reduceAdd, Nat.reduceSub, Int.reduceToNat, Int.reducePow, Int.reduceAdd, Int.reduceMul])))
local macro_rules | `(tactic| walk_at "bx") => `(tactic| first | with_reducible assumption | (apply bnd_mul <;> walk_at "bx") | (apply bnd_addM <;> walk_at "bx") | (apply bnd_subM <;> walk_at "bx") | (apply bnd_negM <;> walk_at "bx") | exact bnd_lit (k := 8) (by decide) | exact bnd_lit (k := 64) (by decide) | (with_reducible (apply_assumption)))
local macro_rules | `(tactic| walk_at "bd") => `(tactic| first | with_reducible assumption | (apply bnd_mono; (walk_at "bx"); first | omega | decide))
local macro_rules | `(tactic| walk_at "sd") => `(tactic| first | with_reducible assumption | omega | with_reducible rfl | exact (rfl : (_ : Bool) = true) | exact (rfl : @Eq (Option D) _ none) | decide | exact few_of (by decide) | exact divOk_small (by decide) (by decide +kernel) | exact mulOk_r (by omega) (by omega) | exact mulOk_l (by omega) (by omega) | ((with_reducible apply mul_of); (walk_at "bx"); (walk_at "bx"); first | omega | decide) | exact few_of (by simp only [List.length_append, List.length_map, List.length_cons, List.length_nil, tab_len, List.length_replicate]; omega))
local macro_rules | `(tactic| walk_at "go") => `(tactic| ((try walk_at "rd"); (repeat (refine And.intro (by walk_at "sd") ?_; try walk_at "rd"))))
/-! ### corners -/
def pR' (R : Mat) (P : List Nat) : Mat := fun i => R (P.getD i 0)
def tabI (n : Nat) (r : Nat → Int) : List Int := (List.range n).map r
def rkN (m n : Nat) (R : Mat) : Nat := (redG (n + 1) m R n).2.length
def liesB (m n : Nat) (R : Mat) (ps : List (Int × Int)) : Bool := ((List.range m).map fun k => (tabI n (R k), R k n)).all fun r => hld r.1 r.2 ps
def cn1 (m n : Nat) (R : Mat) (P : List Nat) : Option (List (Int × Int)) :=
  if P.length = rkN m n R then
    match solN P.length n (pR' R P) with
    | none => none
    | some (xs, r) => if r = rkN m n R then if liesB m n R (xs.map frX) = true then some (xs.map frX) else none else none
  else none
def cnN (m n : Nat) (R : Mat) : List (List (Int × Int)) := (choN (rkN m n R) m).filterMap (cn1 m n R)
theorem rowW_T (n : Nat) (r : Nat → Int) : rowW (n + 1) r = rowT (tabI n r, r n) := by
  unfold rowW rowT tabI tabD
  rw [List.range_succ, List.map_append, List.map_append, List.map_map]
  rfl
theorem mat_T (m n : Nat) (R : Mat) : matD m (n + 1) R = (((List.range m).map fun k => (tabI n (R k), R k n)).map rowT) := by
  unfold matD
  rw [List.map_map]
  exact List.map_congr_left fun k _ => rowW_T n (R k)
abbrev g_corners : DF := fun ds Q _ => ∃ (m n b : Nat) (R : Mat), ds = [.lst (matD m (n + 1) R), .int n] ∧ okRm m n b R ∧ Q (.lst ((cnN m n R).map ptsD))
def tb_corner_b : DS :=
  (dIf (dTest (dOp kEq (dCB kLen (dCons (dVarP 4) dNil)) (dVarP 2))) (dSq (dSet 5 (dCall 2 [] g_solution (dCons (dFz (dLcN (dSeq (dVar 4)) (gNm 6) dYes (dOp kIx (dVarP 0) (dVarP 6)) [6])) (dCons (dVar 1) dNil)))) (dIf (dAnd (dTest (dOp kIsNot (dVarP 5) (dC .non))) (dAnd (dTest (dOp kEq (dOp kIx (dVarP 5) (dC (.int 1))) (dVarP 2))) (dTest (dCall 2 [] g_lies_in3 (dCons (dVar 0) (dCons (dOp kIx (dVarP 5) (dC (.int 0))) dNil)))))) (dApp 3 (dOp kIx (dVarP 5) (dC (.int 0)))) dNext)) dNext)
abbrev N_corners : List Str := ["room", "many", "rank", "found", "pick", "pair", "k"]
def tb_corners : DS :=
  (dSq (dSet 2 (dCB kLen (dCons (dOp kIx (dCall 2 [] g_reduced (dCons (dVar 0) (dCons (dVar 1) dNil))) (dC (.int 1))) dNil))) (dSq (dOwn 3 (dLstN dNil)) (dSq (dFor (dSeq (dCall 2 [] g_choices (dCons (dCB kLen (dCons (dVarP 0) dNil)) (dCons (dVar 2) dNil)))) (gNm 4) (dIf (dTest (dOp kEq (dCB kLen (dCons (dVarP 4) dNil)) (dVarP 2))) (dSq (dSet 5 (dCall 2 [] g_solution (dCons (dFz (dLcN (dSeq (dVar 4)) (gNm 6) dYes (dOp kIx (dVarP 0) (dVarP 6)) [6])) (dCons (dVar 1) dNil)))) (dIf (dAnd (dTest (dOp kIsNot (dVarP 5) (dC .non))) (dAnd (dTest (dOp kEq (dOp kIx (dVarP 5) (dC (.int 1))) (dVarP 2))) (dTest (dCall 2 [] g_lies_in3 (dCons (dVar 0) (dCons (dOp kIx (dVarP 5) (dC (.int 0))) dNil)))))) (dApp 3 (dOp kIx (dVarP 5) (dC (.int 0)))) dNext)) dNext)) (dFrz 3 (dRet (dVar 3))))))
theorem solN_ok {m c b : Nat} {T : Mat} {xs : List (Int × Int)} {r : Nat} (hb : ∀ i j, bnd b (T i j)) (hm : eb b m ≤ 600) (h : solN m c T = some (xs, r)) : xs.length = c ∧ okP 600 (xs.map frX) := by
  unfold solN at h
  have hW := xG_okW (m := m) (c := c) (T := T) hb hm
  by_cases hb : badG m c (redG (c + 1) m T c).1 (redG (c + 1) m T c).2.length = true
  · rw [if_pos hb] at h
    cases h
  · rw [if_neg hb] at h
    cases h
    exact ⟨by rw [List.length_map, List.length_range], hW⟩
theorem corner_loop {Q E : EQ} {m n b : Nat} {R : Mat} (ok : okRm m n b R) {nx : Env' → Prop} : ∀ (Ps : List (List Nat)) (acc : List (List (Int × Int))) (s4 s5 s6 : Sl), acc.length + Ps.length ≤ 16384 → (∀ P ∈ Ps, P.Pairwise (· < ·) ∧ (∀ k ∈ P, k < m)) →
    (∀ s4 s5 s6, nx [.sh (.lst (matD m (n + 1) R)), .sh (.int n), .sh (.int (rkN m n R)), .ow ((acc ++ Ps.filterMap (cn1 m n R)).map ptsD), s4, s5, s6]) →
    loopD (gNm 4) tb_corner_b { dE Q E with nx := nx } (Ps.map fun P => .lst (psD P)) [.sh (.lst (matD m (n + 1) R)), .sh (.int n), .sh (.int (rkN m n R)), .ow (acc.map ptsD), s4, s5, s6]
  | [], acc, s4, s5, s6, _, _, h0 => lp_nil (by rw [List.filterMap_nil, List.append_nil] at h0; exact h0 _ _ _)
  | P :: Ps, acc, s4, s5, s6, hl, hP, h0 => by
    obtain ⟨p2, p3⟩ := hP P List.mem_cons_self
    have n3 := ok.n3
    have m14 := ok.m14
    have pl : (psD P).length = P.length := by unfold psD; rw [List.length_map]
    refine lp_cons ?_
    unfold tb_corner_b
    walk_at "go"
    rw [pl]
    have again : cn1 m n R P = none → ∀ s4 s5 s6, loopD (gNm 4) tb_corner_b { dE Q E with nx := nx } (Ps.map fun P => .lst (psD P)) [.sh (.lst (matD m (n + 1) R)), .sh (.int n), .sh (.int (rkN m n R)), .ow (acc.map ptsD), s4, s5, s6] := fun e s4 s5 s6 => by
      refine corner_loop ok Ps acc s4 s5 s6 (by rw [List.length_cons] at hl; omega) (fun P hp => hP P (List.mem_cons_of_mem _ hp)) fun s4 s5 s6 => ?_
      have := h0 s4 s5 s6
      rw [List.filterMap_cons_none e] at this
      exact this
    by_cases hr : P.length ≠ rkN m n R
    · rw [decide_eq_false (show ¬ (P.length : Int) = (rkN m n R : Int) by omega)]
      walk_at "go"
      exact again (by unfold cn1; exact if_neg hr) _ _ _
    have hr := Decidable.not_not.mp hr
    rw [decide_eq_true (show (P.length : Int) = (rkN m n R : Int) by omega)]
    walk_at "go"
    refine compL_fun (fun k : Nat => D.int k) (fun k : Nat => rowW (n + 1) (R k)) P (fun k hk K1 K0 h1 => ?_) ?_
    · walk_at "rd"
      rw [atI_nn, mat_get (p3 k hk)]
      walk_at "go"
      exact h1
    have em : (P.map fun k : Nat => rowW (n + 1) (R k)) = matD P.length (n + 1) (pR' R P) := by
      unfold matD pR'
      refine List.ext_getElem? fun i => ?_
      rw [List.getElem?_map, List.getElem?_map]
      by_cases hi : i < P.length
      · rw [List.getElem?_eq_getElem hi, List.getElem?_range hi]
        show some (rowW (n + 1) (R P[i])) = some (rowW (n + 1) (R (P.getD i 0)))
        rw [List.getD_eq_getElem?_getD, List.getElem?_eq_getElem hi]
        rfl
      · rw [List.getElem?_eq_none (by omega), List.getElem?_eq_none (by rw [List.length_range]; omega)]
        rfl
    rw [em]
    have r4 : rkN m n R ≤ n := red_len _ _ _ _
    walk_at "go"
    refine ⟨P.length, n, b, pR' R P, rfl, by omega, by omega, fun i j => ok.R _ _, Nat.le_trans (eb_mono n3) (Nat.le_trans ok.e3 (by decide)), ?_⟩
    have hx := fun xs r (e : solN P.length n (pR' R P) = some (xs, r)) => solN_ok (m := P.length) (c := n) (T := pR' R P) (fun i j => ok.R _ _) (Nat.le_trans (eb_mono (show P.length ≤ 3 by omega)) ok.e3) e
    unfold cn1 at again
    rw [if_pos hr] at again
    generalize hs : solN P.length n (pR' R P) = S at *
    cases S with
    | none =>
      unfold solD
      walk_at "go"
      exact again rfl _ _ _
    | some z =>
      obtain ⟨xs, r⟩ := z
      obtain ⟨x1, x2⟩ := hx xs r rfl
      have es : solD (some (xs, r)) = .tup [.lst ((xs.map frX).map prD), .int r] := by
        show D.tup [.lst (xs.map frP), .int r] = _
        rw [List.map_map]
        rfl
      rw [es]
      walk_at "rd"
      by_cases hk : r ≠ rkN m n R
      · rw [decide_eq_false (show ¬ (r : Int) = (rkN m n R : Int) by omega)]
        walk_at "go"
        exact again (if_neg hk) _ _ _
      have hk := Decidable.not_not.mp hk
      rw [decide_eq_true (show (r : Int) = (rkN m n R : Int) by omega)]
      have xl : (xs.map frX).length = n := by rw [List.length_map, x1]
      have b6 : b ≤ 600 := Nat.le_trans (eb_mono (b := b) (Nat.zero_le 3)) ok.e3
      walk_at "go"
      refine ⟨(List.range m).map fun k => (tabI n (R k), R k n), xs.map frX, by rw [mat_T], by omega, x2, fun r hr => ?_, ?_⟩
      · obtain ⟨k, _, rfl⟩ := List.mem_map.mp hr
        refine ⟨by rw [xl]; exact rng_len, fun a ha => ?_, bnd_mono (ok.R _ _) b6⟩
        obtain ⟨j, _, rfl⟩ := List.mem_map.mp ha
        exact bnd_mono (ok.R _ _) b6
      walk_at "rd"
      have el : (((List.range m).map fun k => (tabI n (R k), R k n)).all fun r => hld r.1 r.2 (xs.map frX)) = liesB m n R (xs.map frX) := rfl
      rw [el]
      by_cases hz : liesB m n R (xs.map frX) = true
      · rw [hz]
        have e1 : cn1 m n R P = some (xs.map frX) := by
          unfold cn1
          rw [if_pos hr, hs]
          show (if r = rkN m n R then if liesB m n R (xs.map frX) = true then some (xs.map frX) else none else none) = _
          rw [if_pos hk, if_pos hz]
        have ea : acc.map ptsD ++ [D.lst ((xs.map frX).map prD)] = (acc ++ [xs.map frX]).map ptsD := by rw [List.map_append]; rfl
        walk_at "go"
        rw [ea]
        refine corner_loop ok Ps (acc ++ [xs.map frX]) _ _ _ (by rw [List.length_append]; rw [List.length_cons] at hl; show acc.length + 1 + _ ≤ _; omega) (fun P hp => hP P (List.mem_cons_of_mem _ hp)) fun s4 s5 s6 => ?_
        have := h0 s4 s5 s6
        rw [List.filterMap_cons_some e1] at this
        rw [List.append_assoc]
        exact this
      · rw [Bool.eq_false_iff.mpr hz]
        walk_at "go"
        exact again (by show (if r = rkN m n R then if liesB m n R (xs.map frX) = true then some (xs.map frX) else none else none) = none; rw [if_pos hk, if_neg hz]) _ _ _
theorem rd_corners (ds : List D) (Q E : EQ) (_ : ds.length = 2) (h : g_corners ds Q E) : tb_corners (dE Q E) (startD N_corners ds) := by
  obtain ⟨m, n, b, R, rfl, ok, q⟩ := h
  have n3 := ok.n3
  have m14 := ok.m14
  have ml : (matD m (n + 1) R).length = m := by unfold matD; rw [List.length_map, List.length_range]
  have e3 : eb b n ≤ 3900 := Nat.le_trans (eb_mono n3) (Nat.le_trans ok.e3 (by decide))
  unfold tb_corners dE
  walk_at "go"
  refine ⟨m, n + 1, n, b, R, rfl, by omega, by omega, by omega, ok.R, e3, ?_⟩
  walk_at "go"
  rw [show (psD (redG (n + 1) m R n).2).length = rkN m n R by unfold psD rkN; rw [List.length_map]]
  walk_at "go"
  rw [ml]
  refine ⟨m, rkN m n R, rfl, ok.m14, ?_⟩
  walk_at "rd"
  have l1 := choN_len (rkN m n R) m
  have l2 : 2 ^ m ≤ 2 ^ 14 := Nat.pow_le_pow_right (by decide) (by omega)
  refine corner_loop ok (choN (rkN m n R) m) [] _ _ _ (by show 0 + _ ≤ _; omega) (fun P hP => ⟨(choN_mem.mp hP).1, (choN_mem.mp hP).2.1⟩) fun s4 s5 s6 => ?_
  rw [List.nil_append]
  walk_at "go"
  exact q
end Dl

/-! The D-layer, part 53: the way out. -/
namespace Dl
open PySem PySem.Spec
open PyProof.Rows L2
local macro_rules | `(tactic| walk_at "rd") => `(tactic| ((conv => whnf); (try dsimp only [startD, wipeD, q_map_cons, q_map_nil, q_app_cons, q_app_nil, q_len_cons, q_len_nil, q_rep_0, q_rep_s, q_get_0, q_get_s, q_set_0, q_set_s, ifP_t, ifP_f, Nat.reduceAdd, Nat.reduceSub, Int.reduceToNat, Int.reducePow, Int.reduceAdd, Int.reduceMul])))
local macro_rules | `(tactic| walk_at "bx") => `(tactic| first | with_reducible assumption | (apply bnd_mul <;> walk_at "bx") | (apply bnd_addM <;> walk_at "bx") | (apply bnd_subM <;> walk_at "bx") | (apply bnd_negM <;> walk_at "bx") | exact bnd_lit (k := 8) (by decide) | exact bnd_lit (k := 64) (by decide) | (with_reducible (apply_assumption)))
local macro_rules | `(tactic| walk_at "bd") => `(tactic| first | with_reducible assumption | (apply bnd_mono; (walk_at "bx"); first | omega | decide))
local macro_rules | `(tactic| walk_at "sd") => `(tactic| first | with_reducible assumption | omega | with_reducible rfl | exact (rfl : (_ : Bool) = true) | exact (rfl : @Eq (Option D) _ none) | decide | exact few_of (by decide) | exact divOk_small (by decide) (by decide +kernel) | exact mulOk_r (by omega) (by omega) | exact mulOk_l (by omega) (by omega) | ((with_reducible apply mul_of); (walk_at "bx"); (walk_at "bx"); first | omega | decide) | exact few_of (by simp only [List.length_append, List.length_map, List.length_cons, List.length_nil, tab_len, List.length_replicate]; omega))
local macro_rules | `(tactic| walk_at "go") => `(tactic| ((try walk_at "rd"); (repeat (refine And.intro (by walk_at "sd") ?_; try walk_at "rd"))))
/-! ### the way out -/
def conM (m n : Nat) (R : Mat) (t : Nat → Int) : Mat := fun i j => if i < m then if j < n then R i j else 0 else if j < n then t j else 1
def wyB (n : Nat) (t : Nat → Int) (ps : List (Int × Int)) : Bool := decide ((wsF (tabI (n + 1) t) ps 0 1).1 = (wsF (tabI (n + 1) t) ps 0 1).2)
def wyN (m n : Nat) (R : Mat) (t : Nat → Int) : Nat → Int :=
  match (cnN (m + 1) n (conM m n R t)).find? (wyB n t) with
  | none => fun _ => 0
  | some ps => wN ps (List.range n) (wO ps 1)
abbrev g_way_out : DF := fun ds Q _ => ∃ (m n b : Nat) (R : Mat) (t : Nat → Int), ds = [.lst (matD m (n + 1) R), rowW (n + 1) t, .int n] ∧ okRm (m + 1) n b R ∧ (∀ j, bnd b (t j)) ∧ 1 ≤ b ∧ Q (.lst (tabD n (wyN m n R t)))
def tb_way_b : DS :=
  (dIf (dTest (dOp kEq (dCall 2 [] g_along3 (dCons (dVar 1) (dCons (dVar 6) dNil))) (dTup (dCons (dC (.int 1)) (dCons (dC (.int 1)) dNil))))) (dRet (dOp kIx (dCall 3 [] g_made_whole (dCons (dVar 6) (dCons (dFz (dRngN (dVarP 2))) (dCons (dVar 2) dNil)))) (dC (.int 1)))) dNext)
abbrev N_way_out : List Str := ["room", "row", "many", "one", "cone", "other", "point"]
def tb_way_out : DS :=
  (dSq (dSet 3 (dOp kAdd (dSl (dVarP 1) dNoPart (dPart (dNeg (dC (.int 1))))) (dTup (dCons (dC (.int 1)) dNil)))) (dSq (dSet 4 (dOp kAdd (dFz (dLcN (dSeq (dVar 0)) (gNm 5) dYes (dOp kAdd (dSl (dVarP 5) dNoPart (dPart (dNeg (dC (.int 1))))) (dTup (dCons (dC (.int 0)) dNil))) [5])) (dLst (dCons (dVar 3) dNil)))) (dSq (dFor (dSeq (dCall 2 [] g_corners (dCons (dVar 4) (dCons (dVar 2) dNil)))) (gNm 6) (dIf (dTest (dOp kEq (dCall 2 [] g_along3 (dCons (dVar 1) (dCons (dVar 6) dNil))) (dTup (dCons (dC (.int 1)) (dCons (dC (.int 1)) dNil))))) (dRet (dOp kIx (dCall 3 [] g_made_whole (dCons (dVar 6) (dCons (dFz (dRngN (dVarP 2))) (dCons (dVar 2) dNil)))) (dC (.int 1)))) dNext)) (dRet (dOp kMul (dLst (dCons (dC (.int 0)) dNil)) (dVarP 2))))))
theorem cut_initT (n : Nat) (r : Nat → Int) : cut (tabD (n + 1) r) none (some (-1)) = tabD n r := by
  unfold cut
  rw [HT.sIx_none, tab_len, sIx_m1]
  unfold tabD
  rw [List.range_succ, List.map_append, Nat.add_sub_cancel]
  try rw [List.drop_zero]
  rw [List.take_append_of_le_length (by rw [List.length_map, List.length_range]; exact Nat.le_refl _), List.take_of_length_le (by rw [List.length_map, List.length_range]; exact Nat.le_refl _)]
theorem con_row {m n : Nat} {R : Mat} {t : Nat → Int} {k : Nat} (h : k < m) : D.tup (tabD n (R k) ++ [.int 0]) = rowW (n + 1) (conM m n R t k) := by
  unfold rowW
  rw [tab_snoc]
  refine congrArg D.tup (tab_congr fun j hj => ?_)
  unfold conM
  rw [if_pos h]
  by_cases e : j = n
  · rw [if_pos e, if_neg (by omega)]
  · rw [if_neg e, if_pos (by omega)]
theorem con_last {m n : Nat} {R : Mat} {t : Nat → Int} : D.tup (tabD n t ++ [.int 1]) = rowW (n + 1) (conM m n R t m) := by
  unfold rowW
  rw [tab_snoc]
  refine congrArg D.tup (tab_congr fun j hj => ?_)
  unfold conM
  rw [if_neg (Nat.lt_irrefl m)]
  by_cases e : j = n
  · rw [if_pos e, if_neg (by omega)]
  · rw [if_neg e, if_pos (by omega)]
theorem con_mat {m n : Nat} {R : Mat} {t : Nat → Int} : ((List.range m).map fun k => D.tup (tabD n (R k) ++ [.int 0])) ++ [D.tup (tabD n t ++ [.int 1])] = matD (m + 1) (n + 1) (conM m n R t) := by
  unfold matD
  rw [List.range_succ, List.map_append, con_last (m := m) (R := R)]
  have e : ((List.range m).map fun k => D.tup (tabD n (R k) ++ [.int 0])) = (List.range m).map fun k => rowW (n + 1) (conM m n R t k) := List.map_congr_left fun k hk => con_row (List.mem_range.mp hk)
  rw [e]
  rfl
theorem con_bnd {m n b : Nat} {R : Mat} {t : Nat → Int} (h1 : ∀ i j, bnd b (R i j)) (h2 : ∀ j, bnd b (t j)) (hb : 1 ≤ b) (i j : Nat) : bnd b (conM m n R t i j) := by
  unfold conM
  split
  · split
    · exact h1 _ _
    · exact bnd_zero
  · split
    · exact h2 _
    · exact bnd_one (by omega)
theorem cnN_ok {m n b : Nat} {R : Mat} (ok : okRm m n b R) {ps : List (Int × Int)} (h : ps ∈ cnN m n R) : ps.length = n ∧ okP 600 ps := by
  obtain ⟨P, hP, h⟩ := List.mem_filterMap.mp h
  unfold cn1 at h
  by_cases hr : P.length = rkN m n R
  · rw [if_pos hr] at h
    have r4 : rkN m n R ≤ n := red_len _ _ _ _
    have n3 := ok.n3
    cases hs : solN P.length n (pR' R P) with
    | none => rw [hs] at h; cases h
    | some z =>
      obtain ⟨xs, r⟩ := z
      obtain ⟨x1, x2⟩ := solN_ok (m := P.length) (c := n) (T := pR' R P) (fun i j => ok.R _ _) (Nat.le_trans (eb_mono (show P.length ≤ 3 by omega)) ok.e3) hs
      rw [hs] at h
      have h : (if r = rkN m n R then if liesB m n R (xs.map frX) = true then some (xs.map frX) else none else none) = some ps := h
      split at h
      · split at h
        · cases h
          exact ⟨by rw [List.length_map, x1], x2⟩
        · cases h
      · cases h
  · rw [if_neg hr] at h
    cases h
theorem way_loop {Q E : EQ} {n : Nat} {t : Nat → Int} {s0 s3 s4 s5 : Sl} (n3 : n ≤ 3) (n1 : 1 ≤ n) (ht : ∀ j, bnd 600 (t j)) {nx : Env' → Prop} : ∀ (pss : List (List (Int × Int))) (s6 : Sl), (∀ ps ∈ pss, ps.length = n ∧ okP 600 ps) →
    (pss.find? (wyB n t) = none → ∀ s6, nx [s0, .sh (.tup (tabD (n + 1) t)), .sh (.int n), s3, s4, s5, s6]) → (∀ ps, pss.find? (wyB n t) = some ps → Q (.lst (tabD n (wN ps (List.range n) (wO ps 1))))) →
    loopD (gNm 6) tb_way_b { dE Q E with nx := nx } (pss.map ptsD) [s0, .sh (.tup (tabD (n + 1) t)), .sh (.int n), s3, s4, s5, s6]
  | [], s6, _, h0, _ => lp_nil (h0 rfl _)
  | ps :: pss, s6, hp, h0, h1 => by
    obtain ⟨pl, po⟩ := hp ps List.mem_cons_self
    refine lp_cons ?_
    unfold tb_way_b
    walk_at "go"
    refine ⟨tabI (n + 1) t, ps, .tup (tabD (n + 1) t), rfl, .inl ?_, by omega, fun a ha => ?_, po, ?_⟩
    · unfold tabI tabD
      rw [List.map_map]
      rfl
    · obtain ⟨j, _, rfl⟩ := List.mem_map.mp ha
      exact ht j
    walk_at "go"
    have ev : PyData.eqv (fr (wsF (tabI (n + 1) t) ps 0 1).1 (wsF (tabI (n + 1) t) ps 0 1).2).py (D.tup [.int 1, .int 1]).py = wyB n t ps := by
      have hB : 0 < (wsF (tabI (n + 1) t) ps 0 1).2 := wsF_pos _ _ _ _ (by decide) fun p hp => (po p hp).1
      unfold wyB
      generalize (wsF (tabI (n + 1) t) ps 0 1).1 = T at *
      generalize (wsF (tabI (n + 1) t) ps 0 1).2 = B at *
      have e := eqv_tup [T.fdiv (shr T B), B.fdiv (shr T B)] [1, 1]
      refine (show _ = _ from e).trans (decide_eq_decide.mpr ⟨fun h => ?_, fun h => ?_⟩)
      · injection h with h1 h2
        injection h2 with h2 _
        have c := fr_cross T hB
        rw [h1, h2] at c
        omega
      · have f := fr_eq (t := T) (t' := 1) hB (by decide : (0 : Int) < 1) (by omega)
        rw [fr_one] at f
        unfold fr pr at f
        injection f with f
        injection f with f1 f2
        injection f2 with f2 _
        injection f1 with f1
        injection f2 with f2
        rw [f1, f2]
    have kf : (fr (wsF (tabI (n + 1) t) ps 0 1).1 (wsF (tabI (n + 1) t) ps 0 1).2).okk 64 = true := rfl
    refine ⟨plain_of kf, plain_of (show (D.tup [.int 1, .int 1]).okk 64 = true from rfl), ?_⟩
    rw [ev]
    by_cases hw : wyB n t ps = true
    · rw [hw]
      have h1 := h1 ps (List.find?_cons_of_pos hw)
      walk_at "go"
      refine ⟨n, List.range n, ps, by rw [Int.toNat_natCast, irg0]; rfl, by rw [pl, List.length_range], List.nodup_range, fun k h => List.mem_range.mp h, by omega, by rw [List.length_range]; omega, po, ?_⟩
      walk_at "go"
      exact h1
    · rw [Bool.eq_false_iff.mpr hw]
      walk_at "go"
      rw [List.find?_cons_of_neg hw] at h0 h1
      exact way_loop n3 n1 ht pss _ (fun ps h => hp ps (List.mem_cons_of_mem _ h)) h0 h1
theorem rd_way_out (ds : List D) (Q E : EQ) (_ : ds.length = 3) (h : g_way_out ds Q E) : tb_way_out (dE Q E) (startD N_way_out ds) := by
  obtain ⟨m, n, b, R, t, rfl, ok, ht, b1, q⟩ := h
  have n3 := ok.n3
  have m14 := ok.m14
  unfold tb_way_out dE
  walk_at "go"
  unfold rowW
  refine ⟨by rw [tab_len, sIx_m1]; omega, ?_⟩
  rw [cut_initT]
  walk_at "go"
  have ne : ∀ r : Nat → Int, tabD n r ≠ [] := fun r z => by
    have := congrArg List.length z
    rw [tab_len] at this
    have := ok.n1
    exact absurd this (by show ¬ 1 ≤ n; rw [‹n = _›]; decide)
  refine ⟨ne _, ?_⟩
  walk_at "go"
  refine compL_fun (fun k : Nat => rowW (n + 1) (R k)) (fun k : Nat => D.tup (tabD n (R k) ++ [.int 0])) (List.range m) (fun k hk K1 K0 h1 => ?_) ?_
  · unfold rowW
    walk_at "go"
    refine ⟨by rw [tab_len, sIx_m1]; omega, ?_⟩
    rw [cut_initT]
    walk_at "go"
    refine ⟨ne _, ?_⟩
    walk_at "go"
    exact h1
  walk_at "go"
  rw [con_mat]
  walk_at "go"
  have okc : okRm (m + 1) n b (conM m n R t) := ⟨ok.n1, ok.n3, ok.m14, con_bnd ok.R ht b1, ok.e3, ok.b5⟩
  have b6 : b ≤ 600 := Nat.le_trans (eb_mono (b := b) (Nat.zero_le 3)) ok.e3
  refine ⟨few_of (by rw [show (matD (m + 1) (n + 1) (conM m n R t)).length = m + 1 from rng_len]; omega), ?_⟩
  walk_at "go"
  refine ⟨m + 1, n, b, conM m n R t, rfl, okc, ?_⟩
  walk_at "rd"
  unfold wyN at q
  refine way_loop n3 ok.n1 (fun j => bnd_mono (ht j) b6) (cnN (m + 1) n (conM m n R t)) _ (fun ps hp => cnN_ok okc hp) (fun e s6 => ?_) fun ps e => ?_
  · rw [e] at q
    walk_at "go"
    have ez : (List.replicate (Int.toNat n) [D.int 0]).flatten = tabD n fun _ => 0 := by
      rw [Int.toNat_natCast]
      refine List.ext_getElem? fun i => ?_
      have l : ∀ k, (List.replicate k [D.int 0]).flatten = List.replicate k (D.int 0) := fun k => by
        induction k with
        | zero => rfl
        | succ k ih => rw [List.replicate_succ, List.flatten_cons, ih]; rfl
      rw [l]
      by_cases hi : i < n
      · rw [tab_get hi, List.getElem?_replicate, if_pos hi]
      · rw [List.getElem?_eq_none (by rw [List.length_replicate]; omega), List.getElem?_eq_none (by rw [tab_len]; omega)]
    rw [ez]
    exact ⟨few_of (by rw [tab_len]; omega), q⟩
  · rw [e] at q
    exact q
end Dl

/-! The D-layer, part 54: the least bound of shares. -/
namespace Dl
open PySem PySem.Spec
open PyProof.Rows L2
local macro_rules | `(tactic| walk_at "rd") => `(tactic| ((conv => whnf); (try dsimp only [startD, wipeD, q_map_cons, q_map_nil, q_app_cons, q_app_nil, q_len_cons, q_len_nil, q_rep_0, q_rep_s, q_get_0, q_get_s, q_set_0, q_set_s, ifP_t, ifP_f, Nat.reduceAdd, Nat.reduceSub, Int.reduceToNat, Int.reducePow, Int.reduceAdd, Int.reduceMul])))
local macro_rules | `(tactic| walk_at "bx") => `(tactic| first | with_reducible assumption | (apply bnd_mul <;> walk_at "bx") | (apply bnd_addM <;> walk_at "bx") | (apply bnd_subM <;> walk_at "bx") | (apply bnd_negM <;> walk_at "bx") | exact bnd_lit (k := 8) (by decide) | exact bnd_lit (k := 64) (by decide) | (with_reducible (apply_assumption)))
local macro_rules | `(tactic| walk_at "bd") => `(tactic| first | with_reducible assumption | (apply bnd_mono; (walk_at "bx"); first | omega | decide))
local macro_rules | `(tactic| walk_at "sd") => `(tactic| first | with_reducible assumption | omega | with_reducible rfl | exact (rfl : (_ : Bool) = true) | exact (rfl : @Eq (Option D) _ none) | decide | exact few_of (by decide) | exact divOk_small (by decide) (by decide +kernel) | exact mulOk_r (by omega) (by omega) | exact mulOk_l (by omega) (by omega) | ((with_reducible apply mul_of); (walk_at "bx"); (walk_at "bx"); first | omega | decide) | exact few_of (by simp only [List.length_append, List.length_map, List.length_cons, List.length_nil, tab_len, List.length_replicate]; omega))
local macro_rules | `(tactic| walk_at "go") => `(tactic| ((try walk_at "rd"); (repeat (refine And.intro (by walk_at "sd") ?_; try walk_at "rd"))))
/-! ### the least bound of shares -/
def lsV (m n : Nat) (R : Mat) (s : Int × (Nat → Int)) : Int × Int := frX (dot (fun i => R i n) s.2 m, s.1)
def lsF (m n : Nat) (R : Mat) (tg : Nat → Int) : Option (Int × (Nat → Int)) → List (List Nat) → Option (Int × (Nat → Int))
  | best, [] => best
  | best, P :: Ps => match shN n R P tg with
    | none => lsF m n R tg best Ps
    | some s => match best with
      | none => lsF m n R tg (some s) Ps
      | some c => if (lsV m n R s).1 * (lsV m n R c).2 < (lsV m n R c).1 * (lsV m n R s).2 then lsF m n R tg (some s) Ps else lsF m n R tg (some c) Ps
def lsN (m n : Nat) (R : Mat) (tg : Nat → Int) : Option (Int × (Nat → Int)) := lsF m n R tg none (choN n m)
def lsD (m n : Nat) (R : Mat) : Option (Int × (Nat → Int)) → D
  | none => .non
  | some s => .tup [prD (lsV m n R s), .tup [.int s.1, .lst (tabD m s.2)]]
abbrev g_least_shares : DF := fun ds Q _ => ∃ (m n b : Nat) (R : Mat) (t : Nat → Int), ds = [.lst (matD m (n + 1) R), rowW (n + 1) t, .int n] ∧ okRm m n b R ∧ (∀ j, bnd b (t j)) ∧ 1 ≤ b ∧ Q (lsD m n R (lsN m n R t))
def tb_least_b : DS :=
  (dSq (dSet 5 (dCall 3 [] g_shares_by (dCons (dVar 0) (dCons (dVar 4) (dCons (dVar 1) dNil))))) (dIf (dTest (dOp kIsNot (dVarP 5) (dC .non))) (dSq (dSet 6 (dCall 2 [] g_fraction (dCons (dOp kIx (dCall 3 [] g_addedM (dCons (dVar 0) (dCons (dOp kIx (dVarP 5) (dC (.int 1))) (dCons (dVar 2) dNil)))) (dNeg (dC (.int 1)))) (dCons (dOp kIx (dVarP 5) (dC (.int 0))) dNil)))) (dIf (dOr (dTest (dOp kIs (dVarP 3) (dC .non))) (dTest (dCall 2 [] g_under (dCons (dVar 6) (dCons (dOp kIx (dVarP 3) (dC (.int 0))) dNil))))) (dSet 3 (dTup (dCons (dVar 6) (dCons (dVar 5) dNil)))) dNext)) dNext))
abbrev N_least_shares : List Str := ["room", "row", "many", "best", "pick", "shares", "value"]
def tb_least_shares : DS :=
  (dSq (dSet 3 (dC .non)) (dSq (dFor (dSeq (dCall 2 [] g_choices (dCons (dCB kLen (dCons (dVarP 0) dNil)) (dCons (dVar 2) dNil)))) (gNm 4) (dSq (dSet 5 (dCall 3 [] g_shares_by (dCons (dVar 0) (dCons (dVar 4) (dCons (dVar 1) dNil))))) (dIf (dTest (dOp kIsNot (dVarP 5) (dC .non))) (dSq (dSet 6 (dCall 2 [] g_fraction (dCons (dOp kIx (dCall 3 [] g_addedM (dCons (dVar 0) (dCons (dOp kIx (dVarP 5) (dC (.int 1))) (dCons (dVar 2) dNil)))) (dNeg (dC (.int 1)))) (dCons (dOp kIx (dVarP 5) (dC (.int 0))) dNil)))) (dIf (dOr (dTest (dOp kIs (dVarP 3) (dC .non))) (dTest (dCall 2 [] g_under (dCons (dVar 6) (dCons (dOp kIx (dVarP 3) (dC (.int 0))) dNil))))) (dSet 3 (dTup (dCons (dVar 6) (dCons (dVar 5) dNil)))) dNext)) dNext))) (dRet (dVar 3))))
theorem wN_bnd3 {xs : List (Int × Int)} {P : List Nat} (h : okW xs) (hl : xs.length ≤ 3) (j : Nat) : bnd 3000 (wN xs P (wO xs 1) j) := by
  obtain ⟨w1, w2, w3, w4⟩ := wO_ok xs 1 1 h (by decide) (bnd_one (by decide))
  unfold wN
  split
  · rw [List.getD_eq_getElem?_getD]
    cases hx : xs[P.idxOf j]? with
    | none => exact bnd_mono (bnd_mul (j := 1) (k := 2000) (bnd_zero) (bnd_le (fdiv_le (by decide)) (bnd_mono w4 (by omega)))) (by decide)
    | some x =>
      obtain ⟨x1, x2, x3⟩ := h x (List.mem_of_getElem? hx)
      exact bnd_mono (bnd_mul (j := 600) (k := 2000) x2 (bnd_le (fdiv_le (by show 1 ≤ x.2; omega)) (bnd_mono w4 (by omega)))) (by decide)
  · exact bnd_zero
theorem shN_ok {m n b : Nat} {R : Mat} {P : List Nat} {t : Nat → Int} {s : Int × (Nat → Int)} (ok : okPk m n b R P) (ht : ∀ j, bnd b (t j)) (p3 : P.length ≤ 3) (h : shN n R P t = some s) : 0 < s.1 ∧ bnd 2000 s.1 ∧ ∀ j, bnd 3000 (s.2 j) := by
  unfold shN at h
  cases hs : solN n P.length (tM' R P t) with
  | none => rw [hs] at h; cases h
  | some z =>
    obtain ⟨xs, r⟩ := z
    obtain ⟨x1, x2⟩ := solN_ok (m := n) (c := P.length) (T := tM' R P t) (tM'_bnd ok.R ht) (Nat.le_trans (eb_mono ok.n3) ok.e3) hs
    rw [hs] at h
    have h : (if r < P.length then none else if xs.any (fun x => decide ((frX x).1 < 0)) = true then none else some (wO (xs.map frX) 1, wN (xs.map frX) P (wO (xs.map frX) 1))) = some s := h
    have xl : (xs.map frX).length ≤ 3 := by rw [List.length_map]; omega
    split at h
    · cases h
    · split at h
      · cases h
      · cases h
        obtain ⟨w1, w2, w3, w4⟩ := wO_ok (xs.map frX) 1 1 x2 (by decide) (bnd_one (by decide))
        exact ⟨w1, bnd_mono w4 (by omega), wN_bnd3 x2 xl⟩
theorem lsV_ok {m n b : Nat} {R : Mat} {s : Int × (Nat → Int)} (hR : ∀ i j, bnd b (R i j)) (hb : b ≤ 600) (hm : m ≤ 14) (h : 0 < s.1 ∧ bnd 2000 s.1 ∧ ∀ j, bnd 3000 (s.2 j)) : 0 < (lsV m n R s).2 ∧ bnd 4000 (lsV m n R s).1 ∧ bnd 4000 (lsV m n R s).2 ∧ fr (dot (fun i => R i n) s.2 m) s.1 = prD (lsV m n R s) := by
  obtain ⟨h1, h2, h3⟩ := h
  obtain ⟨x1, x2, x3⟩ := fr_bnds h1 (bnd_mono (k := 4000) (dot_bnd (n := m) (r := fun i => R i n) (fun j _ => bnd_mono (hR j n) hb) fun j _ => h3 j) (by omega)) (bnd_mono (k := 4000) h2 (by omega))
  exact ⟨x1, x2, x3, rfl⟩
def okSh (s : Int × (Nat → Int)) : Prop := 0 < s.1 ∧ bnd 2000 s.1 ∧ ∀ j, bnd 3000 (s.2 j)
theorem least_loop {Q E : EQ} {m n b : Nat} {R : Mat} {t : Nat → Int} (ok : okRm m n b R) (ht : ∀ j, bnd b (t j)) {nx : Env' → Prop} : ∀ (Ps : List (List Nat)) (best : Option (Int × (Nat → Int))) (s4 s5 s6 : Sl), (∀ P ∈ Ps, P.Pairwise (· < ·) ∧ (∀ k ∈ P, k < m) ∧ P.length ≤ n) → (∀ s, best = some s → okSh s) →
    (∀ s4 s5 s6, nx [.sh (.lst (matD m (n + 1) R)), .sh (rowW (n + 1) t), .sh (.int n), .sh (lsD m n R (lsF m n R t best Ps)), s4, s5, s6]) →
    loopD (gNm 4) tb_least_b { dE Q E with nx := nx } (Ps.map fun P => .lst (psD P)) [.sh (.lst (matD m (n + 1) R)), .sh (rowW (n + 1) t), .sh (.int n), .sh (lsD m n R best), s4, s5, s6]
  | [], best, s4, s5, s6, _, _, h0 => lp_nil (h0 _ _ _)
  | P :: Ps, best, s4, s5, s6, hP, hb, h0 => by
    obtain ⟨p2, p3, p4⟩ := hP P List.mem_cons_self
    have n3 := ok.n3
    have m14 := ok.m14
    have okp : okPk m n b R P := ⟨ok.n3, ok.m14, inc_nodup p2, p3, by omega, ok.R, ok.e3⟩
    have b6 : b ≤ 600 := Nat.le_trans (eb_mono (b := b) (Nat.zero_le 3)) ok.e3
    refine lp_cons ?_
    unfold tb_least_b
    walk_at "go"
    refine ⟨m, n, b, R, P, t, rfl, okp, ht, ?_⟩
    have hk := fun s (e : shN n R P t = some s) => shN_ok okp ht (by omega) e
    unfold lsF at h0
    generalize shN n R P t = S at *
    cases S with
    | none =>
      unfold shD
      walk_at "go"
      exact least_loop ok ht Ps best _ _ _ (fun P h => hP P (List.mem_cons_of_mem _ h)) hb h0
    | some s =>
      have sk := hk s rfl
      obtain ⟨v1, v2, v3, v4⟩ := lsV_ok (m := m) (n := n) (s := s) ok.R b6 m14 sk
      unfold shD
      walk_at "go"
      refine ⟨m, n, R, s.2, rfl, by omega, by omega, fun j => bnd_mono (sk.2.2 j) (by decide), fun i j => bnd_mono (ok.R i j) ok.b5, ?_⟩
      walk_at "rd"
      rw [tab_last]
      walk_at "go"
      refine ⟨_, s.1, rfl, by have := sk.1; omega, bnd_mono sk.2.1 (by decide), ?_⟩
      rw [v4]
      have again := fun (c : Int × (Nat → Int)) (ck : okSh c) => least_loop ok ht (nx := nx) (Q := Q) (E := E) Ps (some c) 
      have hq : ∀ P ∈ Ps, P.Pairwise (· < ·) ∧ (∀ k ∈ P, k < m) ∧ P.length ≤ n := fun P h => hP P (List.mem_cons_of_mem _ h)
      cases best with
      | none =>
        walk_at "go"
        exact again s sk _ _ _ hq (fun _ e => by cases e; exact sk) h0
      | some c =>
        have ck := hb c rfl
        obtain ⟨u1, u2, u3, u4⟩ := lsV_ok (m := m) (n := n) (s := c) ok.R b6 m14 ck
        walk_at "go"
        refine ⟨_, _, _, _, rfl, v2, v3, u2, u3, ?_⟩
        dsimp only at h0
        by_cases hz : (lsV m n R s).1 * (lsV m n R c).2 < (lsV m n R c).1 * (lsV m n R s).2
        · rw [decide_eq_true hz]
          rw [if_pos hz] at h0
          walk_at "go"
          exact again s sk _ _ _ hq (fun _ e => by cases e; exact sk) h0
        · rw [decide_eq_false hz]
          rw [if_neg hz] at h0
          walk_at "go"
          exact again c ck _ _ _ hq (fun _ e => by cases e; exact ck) h0
theorem rd_least_shares (ds : List D) (Q E : EQ) (_ : ds.length = 3) (h : g_least_shares ds Q E) : tb_least_shares (dE Q E) (startD N_least_shares ds) := by
  obtain ⟨m, n, b, R, t, rfl, ok, ht, b1, q⟩ := h
  have n3 := ok.n3
  have m14 := ok.m14
  have ml : (matD m (n + 1) R).length = m := by unfold matD; rw [List.length_map, List.length_range]
  unfold tb_least_shares dE
  walk_at "go"
  rw [ml]
  refine ⟨m, n, rfl, ok.m14, ?_⟩
  walk_at "rd"
  refine least_loop ok ht (choN n m) none _ _ _ (fun P hP => choN_mem.mp hP) (fun s e => nomatch e) fun s4 s5 s6 => ?_
  walk_at "go"
  exact q
end Dl

/-! Linear inequalities over the rationals, part 1: a system has a point, or a sum of its rows shows that it has none. -/
namespace Lp
abbrev V := Nat → Rat
abbrev Row := V × Rat
def qd (a x : V) : Nat → Rat
  | 0 => 0
  | n + 1 => qd a x n + a n * x n
theorem qd_congr {a b x y : V} : ∀ {n : Nat}, (∀ j, j < n → a j = b j) → (∀ j, j < n → x j = y j) → qd a x n = qd b y n
  | 0, _, _ => rfl
  | n + 1, h, k => by
    unfold qd
    rw [qd_congr (n := n) (fun j hj => h j (by omega)) fun j hj => k j (by omega), h n (by omega), k n (by omega)]
theorem qd_lin (c : Rat) (a b x : V) : ∀ n, qd (fun j => c * a j + b j) x n = c * qd a x n + qd b x n
  | 0 => by unfold qd; grind
  | n + 1 => by unfold qd; rw [qd_lin c a b x n]; grind
theorem qd_lin_r (c : Rat) (a x y : V) : ∀ n, qd a (fun j => x j + c * y j) n = qd a x n + c * qd a y n
  | 0 => by unfold qd; grind
  | n + 1 => by unfold qd; rw [qd_lin_r c a x y n]; grind
theorem qd_zero {a x : V} : ∀ {n : Nat}, (∀ j, j < n → a j = 0) → qd a x n = 0
  | 0, _ => rfl
  | n + 1, h => by unfold qd; rw [qd_zero (n := n) fun j hj => h j (by omega), h n (by omega)]; grind
def hold (n : Nat) (r : Row) (x : V) : Prop := qd r.1 x n ≤ r.2
def cmb (c : Rat) (r s : Row) : Row := (fun j => c * r.1 j + s.1 j, c * r.2 + s.2)
/-- sums of rows, each so many times, none a negative number of times -/
inductive Nn (L : List Row) : Row → Prop
  | zero : Nn L (fun _ => 0, 0)
  | add {c : Rat} {r s : Row} : r ∈ L → 0 ≤ c → Nn L s → Nn L (cmb c r s)
theorem Nn.eq {L : List Row} {s t : Row} (h : Nn L s) (e1 : s.1 = t.1) (e2 : s.2 = t.2) : Nn L t := by
  have : s = t := Prod.ext e1 e2
  exact this ▸ h
theorem Nn.plus {L : List Row} {s t : Row} (h : Nn L s) (k : Nn L t) : Nn L (fun j => s.1 j + t.1 j, s.2 + t.2) := by
  induction h with
  | zero => exact k.eq (funext fun j => by show t.1 j = 0 + t.1 j; grind) (by show t.2 = 0 + t.2; grind)
  | add hr hc hs ih => exact (Nn.add hr hc ih).eq (funext fun j => by unfold cmb; dsimp only; grind) (by unfold cmb; dsimp only; grind)
theorem Nn.scale {L : List Row} {s : Row} {c : Rat} (hc : 0 ≤ c) (h : Nn L s) : Nn L (fun j => c * s.1 j, c * s.2) := by
  induction h with
  | zero => exact Nn.zero.eq (funext fun j => by show 0 = c * 0; grind) (by show 0 = c * 0; grind)
  | @add d r s hr hd hs ih =>
    exact (Nn.add (c := c * d) hr (Rat.mul_nonneg hc hd) ih).eq (funext fun j => by unfold cmb; dsimp only; grind) (by unfold cmb; dsimp only; grind)
theorem Nn.mem {L : List Row} {r : Row} (h : r ∈ L) : Nn L r :=
  (Nn.add (c := 1) h (by decide) Nn.zero).eq (funext fun j => by unfold cmb; dsimp only; grind) (by unfold cmb; dsimp only; grind)
theorem Nn.trans {L L' : List Row} {s : Row} (h : Nn L' s) (k : ∀ r ∈ L', Nn L r) : Nn L s := by
  induction h with
  | zero => exact .zero
  | @add c r s hr hc hs ih => exact ((Nn.scale hc (k r hr)).plus ih).eq rfl rfl
theorem Nn.at_zero {L : List Row} {s : Row} {j : Nat} (h : Nn L s) (k : ∀ r ∈ L, r.1 j = 0) : s.1 j = 0 := by
  induction h with
  | zero => rfl
  | @add c r s hr hc hs ih => unfold cmb; dsimp only; rw [k r hr, ih]; grind
/-- what holds all rows holds their sums -/
theorem Nn.holds {L : List Row} {s : Row} {n : Nat} {x : V} (h : Nn L s) (k : ∀ r ∈ L, hold n r x) : hold n s x := by
  induction h with
  | zero => unfold hold; rw [qd_zero fun _ _ => rfl]; exact Rat.le_refl
  | @add c r s hr hc hs ih =>
    unfold hold cmb at *
    dsimp only
    rw [qd_lin]
    have h1 := Rat.mul_le_mul_of_nonneg_left (k r hr) hc
    grind
/-- between lower and upper numbers there is one -/
theorem top_of : ∀ (l : List Rat), l ≠ [] → ∃ m ∈ l, ∀ x ∈ l, x ≤ m
  | [x], _ => ⟨x, List.mem_cons_self, fun y hy => by rw [List.mem_singleton.mp hy]; exact Rat.le_refl⟩
  | x :: y :: l, _ => by
    obtain ⟨m, hm, h⟩ := top_of (y :: l) (fun z => nomatch z)
    by_cases e : x ≤ m
    · exact ⟨m, List.mem_cons_of_mem _ hm, fun z hz => (List.mem_cons.mp hz).elim (fun q => q ▸ e) (h z)⟩
    · exact ⟨x, List.mem_cons_self, fun z hz => (List.mem_cons.mp hz).elim (fun q => by rw [q]; exact Rat.le_refl) fun q => by have := h z q; grind⟩
theorem low_of (l : List Rat) (h : l ≠ []) : ∃ m ∈ l, ∀ x ∈ l, m ≤ x := by
  obtain ⟨m, hm, k⟩ := top_of (l.map (- ·)) (fun z => h (List.map_eq_nil_iff.mp z))
  obtain ⟨y, hy, rfl⟩ := List.mem_map.mp hm
  exact ⟨y, hy, fun x hx => by have := k (-x) (List.mem_map.mpr ⟨x, hx, rfl⟩); grind⟩
theorem between (ls us : List Rat) (h : ∀ l ∈ ls, ∀ u ∈ us, l ≤ u) : ∃ t, (∀ l ∈ ls, l ≤ t) ∧ ∀ u ∈ us, t ≤ u := by
  by_cases e : ls = []
  · subst e
    by_cases f : us = []
    · subst f; exact ⟨0, (fun l hl => nomatch hl), (fun u hu => nomatch hu)⟩
    · obtain ⟨m, hm, k⟩ := low_of us f
      exact ⟨m, (fun l hl => nomatch hl), k⟩
  · obtain ⟨m, hm, k⟩ := top_of ls e
    exact ⟨m, k, fun u hu => h m hm u hu⟩
def fmL (n : Nat) (L : List Row) : List Row :=
  L.filter (fun r => decide (r.1 n = 0)) ++ (L.filter fun r => decide (0 < r.1 n)).flatMap fun p => (L.filter fun r => decide (r.1 n < 0)).map fun q =>
    (fun j => p.1 n * q.1 j + -(q.1 n) * p.1 j, p.1 n * q.2 + -(q.1 n) * p.2)
theorem fmL_nn {n : Nat} {L : List Row} : ∀ r ∈ fmL n L, Nn L r ∧ r.1 n = 0 := fun r hr => by
  unfold fmL at hr
  rcases List.mem_append.mp hr with hr | hr
  · obtain ⟨h1, h2⟩ := List.mem_filter.mp hr
    exact ⟨.mem h1, of_decide_eq_true h2⟩
  · obtain ⟨p, hp, hr⟩ := List.mem_flatMap.mp hr
    obtain ⟨q, hq, rfl⟩ := List.mem_map.mp hr
    obtain ⟨p1, p2⟩ := List.mem_filter.mp hp
    obtain ⟨q1, q2⟩ := List.mem_filter.mp hq
    have p2 := of_decide_eq_true p2
    have q2 := of_decide_eq_true q2
    refine ⟨((Nn.scale (c := p.1 n) (by grind) (.mem q1)).plus (Nn.scale (c := -(q.1 n)) (by grind) (.mem p1))), ?_⟩
    dsimp only
    grind
theorem fm_arith {a b c d f g u v : Rat} (hh : d * a + -c * b ≤ d * f + -c * g) (e1 : u * c = f - a) (e3 : v * d = g - b) (hc : c < 0) (hd : 0 < d) : u ≤ v := by
  refine Classical.byContradiction fun z => ?_
  have z : 0 < u - v := by grind
  have m : 0 < (u - v) * (d * -c) := Rat.mul_pos z (Rat.mul_pos hd (by grind))
  have k : d * (f - a) + -c * (g - b) = -((u - v) * (d * -c)) := by rw [← e1, ← e3]; grind
  grind
theorem fmL_point {n : Nat} {L : List Row} {x : V} (h : ∀ r ∈ fmL n L, hold n r x) : ∃ t, ∀ r ∈ L, qd r.1 x n + r.1 n * t ≤ r.2 := by
  obtain ⟨t, h1, h2⟩ := between ((L.filter fun r => decide (r.1 n < 0)).map fun q => (q.2 - qd q.1 x n) / q.1 n) ((L.filter fun r => decide (0 < r.1 n)).map fun p => (p.2 - qd p.1 x n) / p.1 n) (fun l hl u hu => by
    obtain ⟨q, hq, rfl⟩ := List.mem_map.mp hl
    obtain ⟨p, hp, rfl⟩ := List.mem_map.mp hu
    have hh := h _ (List.mem_append_right _ (List.mem_flatMap.mpr ⟨p, hp, List.mem_map.mpr ⟨q, hq, rfl⟩⟩))
    have p2 : 0 < p.1 n := of_decide_eq_true (List.mem_filter.mp hp).2
    have q2 : q.1 n < 0 := of_decide_eq_true (List.mem_filter.mp hq).2
    unfold hold at hh
    dsimp only at hh
    rw [qd_lin (p.1 n) q.1 (fun j => -(q.1 n) * p.1 j) x n] at hh
    have e : qd (fun j => -(q.1 n) * p.1 j) x n = -(q.1 n) * qd p.1 x n := by
      have := qd_lin (-(q.1 n)) p.1 (fun _ => 0) x n
      rw [qd_zero (a := fun _ => 0) fun _ _ => rfl] at this
      have e2 : (fun j => -(q.1 n) * p.1 j + (fun _ => (0 : Rat)) j) = fun j => -(q.1 n) * p.1 j := funext fun j => by dsimp only; grind
      rw [e2] at this
      grind
    rw [e] at hh
    generalize qd q.1 x n = a at *
    generalize qd p.1 x n = b at *
    generalize q.1 n = c at *
    generalize p.1 n = d at *
    generalize q.2 = f at *
    generalize p.2 = g at *
    -- d (f - a) >= -c (b - g) .. over c, d
    have e1 : (f - a) / c * c = f - a := by grind
    have e3 : (g - b) / d * d = g - b := by grind
    exact fm_arith hh e1 e3 q2 p2)
  refine ⟨t, fun r hr => ?_⟩
  by_cases e : r.1 n = 0
  · have := h r (List.mem_append_left _ (List.mem_filter.mpr ⟨hr, decide_eq_true e⟩))
    unfold hold at this
    rw [e]
    grind
  by_cases f : 0 < r.1 n
  · have := h2 _ (List.mem_map.mpr ⟨r, List.mem_filter.mpr ⟨hr, decide_eq_true f⟩, rfl⟩)
    have m := Rat.mul_le_mul_of_nonneg_left this (c := r.1 n) (by grind)
    have e1 : r.1 n * ((r.2 - qd r.1 x n) / r.1 n) = r.2 - qd r.1 x n := by grind
    grind
  · have f : r.1 n < 0 := by grind
    have := h1 _ (List.mem_map.mpr ⟨r, List.mem_filter.mpr ⟨hr, decide_eq_true f⟩, rfl⟩)
    have m := Rat.mul_le_mul_of_nonneg_left this (c := -(r.1 n)) (by grind)
    have e1 : r.1 n * ((r.2 - qd r.1 x n) / r.1 n) = r.2 - qd r.1 x n := by grind
    grind
/-- a system has a point, or a sum of its rows shows that it has none -/
theorem farkas : ∀ (n : Nat) (L : List Row), (∃ x : V, ∀ r ∈ L, hold n r x) ∨ ∃ s : Row, Nn L s ∧ (∀ j, j < n → s.1 j = 0) ∧ s.2 < 0
  | 0, L => by
    by_cases h : ∀ r ∈ L, 0 ≤ r.2
    · exact .inl ⟨fun _ => 0, fun r hr => h r hr⟩
    · obtain ⟨r, hr⟩ := Classical.not_forall.mp h
      obtain ⟨h1, h2⟩ := Classical.not_imp.mp hr
      exact .inr ⟨r, .mem h1, (fun j hj => absurd hj (Nat.not_lt_zero j)), by grind⟩
  | n + 1, L => by
    rcases farkas n (fmL n L) with ⟨x, hx⟩ | ⟨s, h1, h2, h3⟩
    · obtain ⟨t, ht⟩ := fmL_point hx
      refine .inl ⟨fun j => if j = n then t else x j, fun r hr => ?_⟩
      unfold hold qd
      rw [qd_congr (b := r.1) (y := x) (fun _ _ => rfl) fun j hj => by rw [if_neg (by omega)], if_pos rfl]
      exact ht r hr
    · refine .inr ⟨s, h1.trans fun r hr => (fmL_nn r hr).1, fun j hj => ?_, h3⟩
      by_cases e : j = n
      · rw [e]; exact h1.at_zero fun r hr => (fmL_nn r hr).2
      · exact h2 j (by omega)
end Lp

/-! Linear inequalities over the rationals, part 2: shares by place; fewest shares. -/
namespace Lp
/-- m rows over n numbers, their bounds -/
structure Sys where
  m : Nat
  n : Nat
  A : Nat → V
  b : V
def Sys.feas (S : Sys) (x : V) : Prop := ∀ k, k < S.m → qd (S.A k) x S.n ≤ S.b k
/-- what shares come to at a place, and their bound -/
def Sys.at (S : Sys) (y : V) (j : Nat) : Rat := qd y (fun k => S.A k j) S.m
def Sys.cost (S : Sys) (y : V) : Rat := qd y S.b S.m
theorem qd_upd {y a : V} {c : Rat} {i : Nat} : ∀ {m : Nat}, qd (fun k => if k = i then c + y k else y k) a m = qd y a m + if i < m then c * a i else 0
  | 0 => by rw [if_neg (Nat.not_lt_zero i)]; unfold qd; grind
  | m + 1 => by
    unfold qd
    rw [qd_upd (m := m)]
    by_cases e : m = i
    · subst e
      rw [if_pos rfl, if_neg (Nat.lt_irrefl m), if_pos (Nat.lt_succ_self m)]
      grind
    · rw [if_neg e]
      by_cases h : i < m
      · rw [if_pos h, if_pos (by omega)]; grind
      · rw [if_neg h, if_neg (by omega)]; grind
def Sys.rows (S : Sys) : List Row := (List.range S.m).map fun k => (S.A k, S.b k)
theorem nn_shares {S : Sys} {s : Row} (h : Nn S.rows s) : ∃ y : V, (∀ k, 0 ≤ y k) ∧ (∀ j, s.1 j = S.at y j) ∧ s.2 = S.cost y := by
  induction h with
  | zero => exact ⟨fun _ => 0, fun _ => Rat.le_refl, fun j => (qd_zero fun _ _ => rfl).symm, (qd_zero fun _ _ => rfl).symm⟩
  | @add c r s hr hc hs ih =>
    obtain ⟨y, h1, h2, h3⟩ := ih
    obtain ⟨i, hi, rfl⟩ := List.mem_map.mp hr
    have hi := List.mem_range.mp hi
    refine ⟨fun k => if k = i then c + y k else y k, fun k => ?_, fun j => ?_, ?_⟩
    · dsimp only
      split
      · have := h1 k; grind
      · exact h1 k
    · unfold Sys.at
      rw [qd_upd, if_pos hi]
      unfold cmb
      have := h2 j
      unfold Sys.at at this
      dsimp only
      grind
    · unfold Sys.cost
      rw [qd_upd, if_pos hi]
      unfold cmb
      unfold Sys.cost at h3
      dsimp only
      grind
/-- a system has a point, or shares show that it has none -/
theorem Sys.farkas (S : Sys) : (∃ x, S.feas x) ∨ ∃ y : V, (∀ k, 0 ≤ y k) ∧ (∀ j, j < S.n → S.at y j = 0) ∧ S.cost y < 0 := by
  rcases Lp.farkas S.n S.rows with ⟨x, hx⟩ | ⟨s, h1, h2, h3⟩
  · exact .inl ⟨x, fun k hk => hx (S.A k, S.b k) (List.mem_map.mpr ⟨k, List.mem_range.mpr hk, rfl⟩)⟩
  · obtain ⟨y, y1, y2, y3⟩ := nn_shares h1
    exact .inr ⟨y, y1, fun j hj => by rw [← y2 j]; exact h2 j hj, by rw [← y3]; exact h3⟩
/-- the sum of what the rows come to is what their sum comes to -/
theorem at_turn (S : Sys) (y x : V) : ∀ m n, qd (fun j => qd y (fun k => S.A k j) m) x n = qd y (fun k => qd (S.A k) x n) m
  | 0, n => by
    rw [qd_zero (a := fun j => qd y (fun k => S.A k j) 0) fun j _ => rfl]
    rfl
  | m + 1, n => by
    have ih := at_turn S y x m n
    have e : (fun j => qd y (fun k => S.A k j) (m + 1)) = fun j => y m * S.A m j + qd y (fun k => S.A k j) m := funext fun j => by
      show qd y (fun k => S.A k j) m + y m * S.A m j = _
      grind
    rw [e, qd_lin, ih]
    show _ = qd y (fun k => qd (S.A k) x n) m + y m * qd (S.A m) x n
    grind
theorem qd_le {y a b : V} : ∀ {m : Nat}, (∀ k, k < m → 0 ≤ y k) → (∀ k, k < m → a k ≤ b k) → qd y a m ≤ qd y b m
  | 0, _, _ => Rat.le_refl
  | m + 1, h1, h2 => by
    unfold qd
    have ih := qd_le (m := m) (fun k hk => h1 k (by omega)) fun k hk => h2 k (by omega)
    have := Rat.mul_le_mul_of_nonneg_left (h2 m (by omega)) (h1 m (by omega))
    grind
/-- shares' sum at a point is no more than their bound -/
theorem Sys.weak {S : Sys} {x y : V} (hx : S.feas x) (hy : ∀ k, k < S.m → 0 ≤ y k) : qd (S.at y) x S.n ≤ S.cost y := by
  have := at_turn S y x S.m S.n
  unfold Sys.at
  rw [this]
  exact qd_le hy hx
/-! ### fewest shares -/
def cnt (y : V) (m : Nat) : Nat := ((List.range m).filter fun k => decide (y k ≠ 0)).length
theorem cnt_lt {y z : V} {m i : Nat} (h : ∀ k, k < m → z k ≠ 0 → y k ≠ 0) (hi : i < m) (h1 : y i ≠ 0) (h2 : z i = 0) : cnt z m < cnt y m := by
  unfold cnt
  rw [← List.countP_eq_length_filter, ← List.countP_eq_length_filter]
  have le : ∀ l : List Nat, (∀ k ∈ l, k < m) → List.countP (fun k => decide (z k ≠ 0)) l ≤ List.countP (fun k => decide (y k ≠ 0)) l := fun l hl =>
    List.countP_mono_left fun k hk hz => decide_eq_true (h k (hl k hk) (of_decide_eq_true hz))
  have : ∀ l : List Nat, (∀ k ∈ l, k < m) → i ∈ l → List.countP (fun k => decide (z k ≠ 0)) l < List.countP (fun k => decide (y k ≠ 0)) l := by
    intro l
    induction l with
    | nil => intro _ hil; cases hil
    | cons k l ih =>
      intro hl hil
      by_cases e : k = i
      · subst e
        have := le l fun q hq => hl q (List.mem_cons_of_mem _ hq)
        rw [List.countP_cons, List.countP_cons, if_neg (by rw [decide_eq_false (fun n => n h2)]; exact Bool.false_ne_true), if_pos (decide_eq_true h1)]
        omega
      · have ih := ih (fun q hq => hl q (List.mem_cons_of_mem _ hq)) (by rcases List.mem_cons.mp hil with q | q; exact absurd q.symm e; exact q)
        rw [List.countP_cons, List.countP_cons]
        by_cases hz : z k = 0
        · rw [if_neg (by rw [decide_eq_false (fun n => n hz)]; exact Bool.false_ne_true)]
          omega
        · rw [if_pos (decide_eq_true hz), if_pos (decide_eq_true (h k (hl k List.mem_cons_self) hz))]
          omega
  exact this _ (fun k hk => List.mem_range.mp hk) (List.mem_range.mpr hi)
/-- one share comes to nought first -/
theorem shrink {y z : V} {m : Nat} (hy : ∀ k, 0 ≤ y k) (hz : ∀ k, k < m → z k ≠ 0 → y k ≠ 0) (hn : ∃ k, k < m ∧ z k < 0) (h0 : ∀ k, m ≤ k → z k = 0) :
    ∃ t : Rat, 0 < t ∧ (∀ k, 0 ≤ y k + t * z k) ∧ ∃ i, i < m ∧ y i ≠ 0 ∧ y i + t * z i = 0 := by
  obtain ⟨i, hi, hin⟩ := hn
  obtain ⟨t, ht, hl⟩ := low_of (((List.range m).filter fun k => decide (z k < 0)).map fun k => y k / -(z k)) (fun e => by
    have := List.map_eq_nil_iff.mp e
    have hm : i ∈ (List.range m).filter fun k => decide (z k < 0) := List.mem_filter.mpr ⟨List.mem_range.mpr hi, decide_eq_true hin⟩
    rw [this] at hm
    cases hm)
  obtain ⟨q, hq, rfl⟩ := List.mem_map.mp ht
  obtain ⟨q1, q2⟩ := List.mem_filter.mp hq
  have q1 := List.mem_range.mp q1
  have q2 : z q < 0 := of_decide_eq_true q2
  have qy := hz q q1 (by grind)
  have qp : 0 < y q := by have := hy q; grind
  have et : y q / -(z q) * -(z q) = y q := by grind
  have tp : 0 < y q / -(z q) := by
    refine Classical.byContradiction fun w => ?_
    have : y q / -(z q) ≤ 0 := by grind
    have := Rat.mul_le_mul_of_nonneg_right this (c := -(z q)) (by grind)
    grind
  refine ⟨y q / -(z q), tp, fun k => ?_, q, q1, qy, by grind⟩
  by_cases hk : z k < 0
  · have km : k < m := Classical.byContradiction fun w => by have := h0 k (by omega); grind
    have := hl _ (List.mem_map.mpr ⟨k, List.mem_filter.mpr ⟨List.mem_range.mpr km, decide_eq_true hk⟩, rfl⟩)
    have := Rat.mul_le_mul_of_nonneg_right this (c := -(z k)) (by grind)
    have e : y k / -(z k) * -(z k) = y k := by grind
    grind
  · have := Rat.mul_nonneg (Rat.le_of_lt tp) (show 0 ≤ z k by grind)
    have := hy k
    grind
theorem at_lin (S : Sys) (t : Rat) (y z : V) (j : Nat) : S.at (fun k => y k + t * z k) j = S.at y j + t * S.at z j := by
  unfold Sys.at
  have := qd_lin t z y (fun k => S.A k j) S.m
  have e : (fun k => y k + t * z k) = fun k => t * z k + y k := funext fun k => by grind
  rw [e, this]
  grind
theorem cost_lin (S : Sys) (t : Rat) (y z : V) : S.cost (fun k => y k + t * z k) = S.cost y + t * S.cost z := by
  unfold Sys.cost
  have := qd_lin t z y S.b S.m
  have e : (fun k => y k + t * z k) = fun k => t * z k + y k := funext fun k => by grind
  rw [e, this]
  grind
/-- the rows that have a share are independent -/
def Sys.indep (S : Sys) (y : V) : Prop := ∀ z : V, (∀ k, z k ≠ 0 → k < S.m ∧ y k ≠ 0) → (∀ j, j < S.n → S.at z j = 0) → ∀ k, z k = 0
/-- in a system with a point, shares may be had from independent rows, with no greater bound -/
theorem Sys.basic {S : Sys} {x : V} (hx : S.feas x) : ∀ (N : Nat) (y : V), cnt y S.m ≤ N → (∀ k, 0 ≤ y k) → (∀ k, S.m ≤ k → y k = 0) →
    ∃ y' : V, (∀ k, 0 ≤ y' k) ∧ (∀ k, S.m ≤ k → y' k = 0) ∧ (∀ j, j < S.n → S.at y' j = S.at y j) ∧ S.cost y' ≤ S.cost y ∧ S.indep y' := by
  intro N
  induction N with
  | zero =>
    intro y hc hy h0
    refine ⟨y, hy, h0, fun _ _ => rfl, Rat.le_refl, fun z hz _ k => Classical.byContradiction fun w => ?_⟩
    obtain ⟨k1, k2⟩ := hz k w
    have : k ∈ (List.range S.m).filter fun k => decide (y k ≠ 0) := List.mem_filter.mpr ⟨List.mem_range.mpr k1, decide_eq_true k2⟩
    unfold cnt at hc
    rw [List.length_eq_zero_iff.mp (Nat.le_zero.mp hc)] at this
    cases this
  | succ N ih =>
    intro y hc hy h0
    by_cases hi : S.indep y
    · exact ⟨y, hy, h0, fun _ _ => rfl, Rat.le_refl, hi⟩
    · unfold Sys.indep at hi
      obtain ⟨z, hz⟩ := Classical.not_forall.mp hi
      obtain ⟨z1, hz⟩ := Classical.not_imp.mp hz
      obtain ⟨z2, hz⟩ := Classical.not_imp.mp hz
      obtain ⟨i, zi⟩ := Classical.not_forall.mp hz
      -- a way on which the bound does not grow and a share falls
      have way : ∃ w : V, (∀ k, w k ≠ 0 → k < S.m ∧ y k ≠ 0) ∧ (∀ j, j < S.n → S.at w j = 0) ∧ S.cost w ≤ 0 ∧ ∃ k, k < S.m ∧ w k < 0 := by
        have neg1 : ∀ j, S.at (fun k => -(z k)) j = -(S.at z j) := fun j => by
          have := at_lin S (-1) (fun _ => 0) z j
          have e : (fun k => (fun _ => (0 : Rat)) k + -1 * z k) = fun k => -(z k) := funext fun k => by dsimp only; grind
          rw [e, show S.at (fun _ => 0) j = 0 from qd_zero fun _ _ => rfl] at this
          grind
        have neg2 : S.cost (fun k => -(z k)) = -(S.cost z) := by
          have := cost_lin S (-1) (fun _ => 0) z
          have e : (fun k => (fun _ => (0 : Rat)) k + -1 * z k) = fun k => -(z k) := funext fun k => by dsimp only; grind
          rw [e, show S.cost (fun _ => 0) = 0 from qd_zero fun _ _ => rfl] at this
          grind
        have n1 : ∀ k, -(z k) ≠ 0 → k < S.m ∧ y k ≠ 0 := fun k hk => z1 k (by grind)
        have n2 : ∀ j, j < S.n → S.at (fun k => -(z k)) j = 0 := fun j hj => by rw [neg1, z2 j hj]; grind
        -- no z of one sign with a bound below 0
        have sgn : ∀ w : V, (∀ k, 0 ≤ w k) → (∀ j, j < S.n → S.at w j = 0) → 0 ≤ S.cost w := fun w hw hj => by
          have := S.weak hx (fun k _ => hw k)
          rw [qd_zero hj] at this
          exact this
        obtain ⟨im, iy⟩ := z1 i zi
        by_cases c0 : S.cost z ≤ 0
        · by_cases ng : ∃ k, k < S.m ∧ z k < 0
          · exact ⟨z, z1, z2, c0, ng⟩
          · have zp : ∀ k, 0 ≤ z k := fun k => Classical.byContradiction fun w => ng ⟨k, (z1 k (by grind)).1, by grind⟩
            have := sgn z zp z2
            refine ⟨fun k => -(z k), n1, n2, by rw [neg2]; grind, i, im, ?_⟩
            have := zp i
            grind
        · by_cases ng : ∃ k, k < S.m ∧ -(z k) < 0
          · exact ⟨fun k => -(z k), n1, n2, by rw [neg2]; grind, ng⟩
          · have zp : ∀ k, 0 ≤ -(z k) := fun k => Classical.byContradiction fun w => ng ⟨k, (z1 k (by grind)).1, by grind⟩
            have := sgn (fun k => -(z k)) zp n2
            rw [neg2] at this
            grind
      obtain ⟨w, w1, w2, w3, w4⟩ := way
      obtain ⟨t, t0, t1, q, q1, q2, q3⟩ := shrink hy (fun k hk hw => (w1 k hw).2) w4 fun k hk => Classical.byContradiction fun e => absurd (w1 k e).1 (by omega)
      have lt : cnt (fun k => y k + t * w k) S.m < cnt y S.m := cnt_lt (fun k hk hne e => by
        have : w k = 0 := Classical.byContradiction fun v => (w1 k v).2 e
        apply hne
        rw [e, this]
        grind) q1 q2 q3
      obtain ⟨y', a1, a2, a3, a4, a5⟩ := ih (fun k => y k + t * w k) (by omega) t1 (fun k hk => by
        have : w k = 0 := Classical.byContradiction fun v => absurd (w1 k v).1 (by omega)
        rw [h0 k hk, this]
        grind)
      refine ⟨y', a1, a2, fun j hj => by rw [a3 j hj, at_lin, w2 j hj]; grind, ?_, a5⟩
      rw [cost_lin] at a4
      have := Rat.mul_le_mul_of_nonneg_left w3 (Rat.le_of_lt t0)
      grind
end Lp

/-! Linear inequalities over the rationals, part 3: rings, the most, corners. -/
namespace Lp
theorem at_zero (S : Sys) (j : Nat) : S.at (fun _ => 0) j = 0 := qd_zero fun _ _ => rfl
theorem cost_zero (S : Sys) : S.cost (fun _ => 0) = 0 := qd_zero fun _ _ => rfl
theorem at_neg (S : Sys) (z : V) (j : Nat) : S.at (fun k => -(z k)) j = -(S.at z j) := by
  have := at_lin S (-1) (fun _ => 0) z j
  have e : (fun k => (fun _ => (0 : Rat)) k + -1 * z k) = fun k => -(z k) := funext fun k => by dsimp only; grind
  rw [e, at_zero] at this
  grind
theorem cost_neg (S : Sys) (z : V) : S.cost (fun k => -(z k)) = -(S.cost z) := by
  have := cost_lin S (-1) (fun _ => 0) z
  have e : (fun k => (fun _ => (0 : Rat)) k + -1 * z k) = fun k => -(z k) := funext fun k => by dsimp only; grind
  rw [e, cost_zero] at this
  grind
/-- shares that show that there is no point -/
structure Sys.Shut (S : Sys) (y : V) : Prop where
  nn : ∀ k, 0 ≤ y k
  out : ∀ k, S.m ≤ k → y k = 0
  z : ∀ j, j < S.n → S.at y j = 0
  c : S.cost y < 0
/-- .. which are the only ones of their rows -/
def Sys.Ring (S : Sys) (y : V) : Prop := ∀ z : V, (∀ k, z k ≠ 0 → k < S.m ∧ y k ≠ 0) → (∀ j, j < S.n → S.at z j = 0) → ∃ c : Rat, ∀ k, z k = c * y k
theorem Sys.ring {S : Sys} : ∀ (N : Nat) (y : V), cnt y S.m ≤ N → S.Shut y → ∃ y', S.Shut y' ∧ S.Ring y' := by
  intro N
  induction N with
  | zero =>
    intro y hc h
    refine ⟨y, h, fun z hz _ => ⟨0, fun k => Classical.byContradiction fun w => ?_⟩⟩
    obtain ⟨k1, k2⟩ := hz k (by grind)
    have : k ∈ (List.range S.m).filter fun k => decide (y k ≠ 0) := List.mem_filter.mpr ⟨List.mem_range.mpr k1, decide_eq_true k2⟩
    unfold cnt at hc
    rw [List.length_eq_zero_iff.mp (Nat.le_zero.mp hc)] at this
    cases this
  | succ N ih =>
    intro y hc h
    by_cases hr : S.Ring y
    · exact ⟨y, h, hr⟩
    unfold Sys.Ring at hr
    obtain ⟨z, hz⟩ := Classical.not_forall.mp hr
    obtain ⟨z1, hz⟩ := Classical.not_imp.mp hz
    obtain ⟨z2, hz⟩ := Classical.not_imp.mp hz
    -- along a way with no greater bound, by which a share falls
    have go : ∀ (y w : V), cnt y S.m ≤ N + 1 → S.Shut y → (∀ k, w k ≠ 0 → k < S.m ∧ y k ≠ 0) → (∀ j, j < S.n → S.at w j = 0) → S.cost w ≤ 0 → (∃ k, k < S.m ∧ w k < 0) → ∃ y', S.Shut y' ∧ S.Ring y' := fun y w hc h w1 w2 w3 w4 => by
      obtain ⟨t, t0, t1, q, q1, q2, q3⟩ := shrink h.nn (fun k hk hw => (w1 k hw).2) w4 fun k hk => Classical.byContradiction fun e => absurd (w1 k e).1 (by omega)
      have lt : cnt (fun k => y k + t * w k) S.m < cnt y S.m := cnt_lt (fun k hk hne e => by
        have : w k = 0 := Classical.byContradiction fun v => (w1 k v).2 e
        apply hne
        rw [e, this]
        grind) q1 q2 q3
      refine ih _ (by omega) ⟨t1, fun k hk => ?_, fun j hj => by rw [at_lin, w2 j hj, h.z j hj]; grind, ?_⟩
      · have : w k = 0 := Classical.byContradiction fun v => absurd (w1 k v).1 (by omega)
        rw [h.out k hk, this]
        grind
      · rw [cost_lin]
        have := Rat.mul_le_mul_of_nonneg_left w3 (Rat.le_of_lt t0)
        have := h.c
        grind
    -- z or the other way about
    have pick : ∃ w : V, (∀ k, w k ≠ 0 → k < S.m ∧ y k ≠ 0) ∧ (∀ j, j < S.n → S.at w j = 0) ∧ S.cost w ≤ 0 ∧ ¬ ∃ c : Rat, ∀ k, w k = c * y k := by
      by_cases c0 : S.cost z ≤ 0
      · exact ⟨z, z1, z2, c0, hz⟩
      · refine ⟨fun k => -(z k), fun k hk => z1 k (by grind), fun j hj => by rw [at_neg, z2 j hj]; grind, by rw [cost_neg]; grind, fun ⟨c, hcc⟩ => hz ⟨-c, fun k => ?_⟩⟩
        have := hcc k
        grind
    obtain ⟨w, w1, w2, w3, w4⟩ := pick
    by_cases ng : ∃ k, k < S.m ∧ w k < 0
    · exact go y w hc h w1 w2 w3 ng
    have wp : ∀ k, 0 ≤ w k := fun k => Classical.byContradiction fun v => ng ⟨k, (w1 k (by grind)).1, by grind⟩
    obtain ⟨i, wi⟩ : ∃ i, w i ≠ 0 := Classical.byContradiction fun v => w4 ⟨0, fun k => by
      have : w k = 0 := Classical.byContradiction fun u => v ⟨k, u⟩
      rw [this]; grind⟩
    obtain ⟨im, iy⟩ := w1 i wi
    have ip : 0 < w i := by have := wp i; grind
    have n1 : ∀ k, -(w k) ≠ 0 → k < S.m ∧ y k ≠ 0 := fun k hk => w1 k (by grind)
    have n2 : ∀ j, j < S.n → S.at (fun k => -(w k)) j = 0 := fun j hj => by rw [at_neg, w2 j hj]; grind
    by_cases c0 : S.cost w = 0
    · exact go y (fun k => -(w k)) hc h n1 n2 (by rw [cost_neg, c0]; decide) ⟨i, im, by grind⟩
    have wc : S.cost w < 0 := by grind
    have wS : S.Shut w := ⟨wp, fun k hk => Classical.byContradiction fun v => absurd (w1 k v).1 (by omega), w2, wc⟩
    by_cases sm : ∃ k, k < S.m ∧ y k ≠ 0 ∧ w k = 0
    · obtain ⟨k, k1, k2, k3⟩ := sm
      exact ih w (by have := cnt_lt (y := y) (z := w) (fun k hk hw => (w1 k hw).2) k1 k2 k3; omega) wS
    have same : ∀ k, y k ≠ 0 → w k ≠ 0 := fun k hk e => sm ⟨k, Classical.byContradiction fun v => hk (h.out k (by omega)), hk, e⟩
    obtain ⟨t, t0, t1, q, q1, q2, q3⟩ := shrink (z := fun k => -(w k)) h.nn (fun k hk hw => (n1 k hw).2) ⟨i, im, by grind⟩ fun k hk => by rw [wS.out k hk]; grind
    -- what is left of y
    have u1 : ∀ k, y k + t * -(w k) ≠ 0 → k < S.m ∧ w k ≠ 0 := fun k hk => by
      have : y k ≠ 0 := fun e => hk (by
        have : w k = 0 := Classical.byContradiction fun v => (w1 k v).2 e
        rw [e, this]; grind)
      exact ⟨Classical.byContradiction fun v => this (h.out k (by omega)), same k this⟩
    have u2 : ∀ j, j < S.n → S.at (fun k => y k + t * -(w k)) j = 0 := fun j hj => by rw [at_lin S t y fun k => -(w k), n2 j hj, h.z j hj]; grind
    have lt : cnt (fun k => y k + t * -(w k)) S.m < cnt y S.m := cnt_lt (fun k hk hne e => (by
        have : w k = 0 := Classical.byContradiction fun v => (w1 k v).2 e
        apply hne
        rw [e, this]
        grind)) q1 q2 q3
    by_cases uc : S.cost (fun k => y k + t * -(w k)) < 0
    · exact ih _ (by omega) ⟨t1, fun k hk => by rw [h.out k hk, wS.out k hk]; grind, u2, uc⟩
    obtain ⟨p, hp⟩ : ∃ p, y p + t * -(w p) ≠ 0 := Classical.byContradiction fun v => by
      have all : ∀ k, y k + t * -(w k) = 0 := fun k => Classical.byContradiction fun u => v ⟨k, u⟩
      refine w4 ⟨t⁻¹, fun k => ?_⟩
      have := all k
      have e : t⁻¹ * t = 1 := by grind
      have : y k = t * w k := by grind
      rw [this]
      grind
    have pp : 0 < y p + t * -(w p) := by have := t1 p; grind
    have cw : cnt w S.m ≤ N + 1 := by
      have : cnt w S.m ≤ cnt y S.m := by
        unfold cnt
        rw [← List.countP_eq_length_filter, ← List.countP_eq_length_filter]
        exact List.countP_mono_left fun k _ hz => decide_eq_true (w1 k (of_decide_eq_true hz)).2
      omega
    refine go w (fun k => -(y k + t * -(w k))) cw wS (fun k hk => u1 k (by grind)) (fun j hj => by rw [at_neg, u2 j hj]; grind) (by rw [cost_neg]; grind) ⟨p, (u1 p hp).1, by grind⟩
/-! ### the most -/
def Sys.more (S : Sys) (a : V) (β : Rat) : Sys := ⟨S.m + 1, S.n, fun k => if k = S.m then a else S.A k, fun k => if k = S.m then β else S.b k⟩
theorem more_at (S : Sys) (a : V) (β : Rat) (y : V) (j : Nat) : (S.more a β).at y j = S.at y j + y S.m * a j := by
  show qd y (fun k => (if k = S.m then a else S.A k) j) S.m + y S.m * (if S.m = S.m then a else S.A S.m) j = _
  rw [if_pos rfl, qd_congr (a := y) (b := y) (y := fun k => S.A k j) (fun _ _ => rfl) fun k hk => by rw [if_neg (by omega)]]
  rfl
theorem more_cost (S : Sys) (a : V) (β : Rat) (y : V) : (S.more a β).cost y = S.cost y + y S.m * β := by
  show qd y (fun k => if k = S.m then β else S.b k) S.m + y S.m * (if S.m = S.m then β else S.b S.m) = _
  rw [if_pos rfl, qd_congr (a := y) (b := y) (y := S.b) (fun _ _ => rfl) fun k hk => by rw [if_neg (by omega)]]
  rfl
theorem more_feas {S : Sys} {a : V} {β : Rat} {x : V} : (S.more a β).feas x ↔ S.feas x ∧ qd a x S.n ≤ β := by
  unfold Sys.feas Sys.more
  dsimp only
  constructor
  · intro h
    refine ⟨fun k hk => ?_, ?_⟩
    · have := h k (by omega)
      rw [if_neg (by omega), if_neg (by omega)] at this
      exact this
    · have := h S.m (by omega)
      rw [if_pos rfl, if_pos rfl] at this
      exact this
  · rintro ⟨h1, h2⟩ k hk
    by_cases e : k = S.m
    · rw [if_pos e, if_pos e]; exact h2
    · rw [if_neg e, if_neg e]; exact h1 k (by omega)
/-- shares for a target -/
structure Sys.For (S : Sys) (c y : V) : Prop where
  nn : ∀ k, 0 ≤ y k
  out : ∀ k, S.m ≤ k → y k = 0
  eq : ∀ j, j < S.n → S.at y j = c j
theorem Sys.For.bound {S : Sys} {c y x : V} (h : S.For c y) (hx : S.feas x) : qd c x S.n ≤ S.cost y := by
  have := S.weak hx fun k _ => h.nn k
  rw [qd_congr (b := c) (y := x) h.eq fun _ _ => rfl] at this
  exact this
theorem scale_for {S : Sys} {c y : V} {d : Rat} (h0 : ∀ k, 0 ≤ y k) (hd : 0 < d) (h : ∀ j, j < S.n → S.at y j = d * c j) : S.For c (fun k => if k < S.m then d⁻¹ * y k else 0) ∧ S.cost (fun k => if k < S.m then d⁻¹ * y k else 0) = d⁻¹ * S.cost y := by
  have di : d⁻¹ * d = 1 := by grind
  have dp : 0 ≤ d⁻¹ := Classical.byContradiction fun z => by
    have : 0 < -(d⁻¹) * d := Rat.mul_pos (by grind) hd
    grind
  have q : ∀ a : V, qd (fun k => if k < S.m then d⁻¹ * y k else 0) a S.m = d⁻¹ * qd y a S.m := fun a => by
    have := qd_lin d⁻¹ y (fun _ => 0) a S.m
    rw [qd_zero (a := fun _ => 0) fun _ _ => rfl] at this
    rw [qd_congr (b := fun j => d⁻¹ * y j + (fun _ => (0 : Rat)) j) (y := a) (fun k hk => by rw [if_pos hk]; dsimp only; grind) fun _ _ => rfl, this]
    grind
  refine ⟨⟨fun k => ?_, fun k hk => if_neg (by omega), fun j hj => ?_⟩, q S.b⟩
  · split
    · exact Rat.mul_nonneg dp (h0 k)
    · exact Rat.le_refl
  · show qd _ (fun k => S.A k j) S.m = c j
    rw [q]
    have := h j hj
    unfold Sys.at at this
    rw [this]
    grind
theorem arith1 {d di C v : Rat} (h : di * d = 1) (m : 0 < di * -(C + d * -v)) : di * C < v := by
  have : di * -(C + d * -v) = v - di * C := by grind
  grind
/-- the least bound of shares is the most of the row -/
theorem Sys.strong {S : Sys} {c x0 : V} {v : Rat} (hx : S.feas x0) (best : ∀ y, S.For c y → S.indep y → v ≤ S.cost y) (some : ∃ y, S.For c y ∧ S.cost y = v) :
    ∃ x, S.feas x ∧ qd c x S.n = v := by
  rcases (S.more (fun j => -(c j)) (-v)).farkas with ⟨x, h⟩ | ⟨y, y0, y1, y2⟩
  · obtain ⟨h1, h2⟩ := more_feas.mp h
    obtain ⟨y, hy, hv⟩ := some
    have := hy.bound h1
    have e : qd (fun j => -(c j)) x S.n = -(qd c x S.n) := by
      have := qd_lin (-1) c (fun _ => 0) x S.n
      rw [qd_zero (a := fun _ => 0) fun _ _ => rfl] at this
      have e : (fun j => -1 * c j + (fun _ => (0 : Rat)) j) = fun j => -(c j) := funext fun j => by dsimp only; grind
      rw [e] at this
      grind
    rw [e] at h2
    exact ⟨x, h1, by grind⟩
  · have z1 : ∀ j, j < S.n → S.at y j = y S.m * c j := fun j hj => by
      have := y1 j hj
      rw [more_at] at this
      grind
    rw [more_cost] at y2
    by_cases e : y S.m = 0
    · have := S.weak hx fun k _ => y0 k
      rw [qd_zero fun j hj => by rw [z1 j hj, e]; grind] at this
      rw [e] at y2
      grind
    · have dp : 0 < y S.m := by have := y0 S.m; grind
      obtain ⟨f, fc⟩ := scale_for (c := c) y0 dp z1
      obtain ⟨y', a1, a2, a3, a4, a5⟩ := S.basic hx _ _ (Nat.le_refl _) f.nn f.out
      have := best y' ⟨a1, a2, fun j hj => by rw [a3 j hj]; exact f.eq j hj⟩ a5
      rw [fc] at a4
      have di : (y S.m)⁻¹ * y S.m = 1 := by grind
      have ip : 0 < (y S.m)⁻¹ := Classical.byContradiction fun z => by
        have := Rat.mul_nonneg (a := -((y S.m)⁻¹)) (b := y S.m) (by grind) (by grind)
        grind
      have m : 0 < (y S.m)⁻¹ * -(S.cost y + y S.m * -v) := Rat.mul_pos ip (by grind)
      have := arith1 di m
      exact absurd (Rat.le_trans ‹v ≤ S.cost y'› a4) (by grind)
end Lp

/-! Linear inequalities over the rationals, part 4: open rooms; corners. -/
namespace Lp
theorem qd_neg (c x : V) (n : Nat) : qd (fun j => -(c j)) x n = -(qd c x n) := by
  have := qd_lin (-1) c (fun _ => 0) x n
  rw [qd_zero (a := fun _ => 0) fun _ _ => rfl] at this
  have e : (fun j => -1 * c j + (fun _ => (0 : Rat)) j) = fun j => -(c j) := funext fun j => by dsimp only; grind
  rw [e] at this
  grind
theorem qd_zero_r {a x : V} : ∀ {n : Nat}, (∀ j, j < n → x j = 0) → qd a x n = 0
  | 0, _ => rfl
  | n + 1, h => by unfold qd; rw [qd_zero_r (n := n) fun j hj => h j (by omega), h n (by omega)]; grind
theorem qd_neg_r (a x : V) (n : Nat) : qd a (fun j => -(x j)) n = -(qd a x n) := by
  have := qd_lin_r (-1) a (fun _ => 0) x n
  rw [qd_zero_r (x := fun _ => 0) fun _ _ => rfl] at this
  have e : (fun j => (fun _ => (0 : Rat)) j + -1 * x j) = fun j => -(x j) := funext fun j => by dsimp only; grind
  rw [e] at this
  grind
theorem qd_smul_r (a x : V) (t : Rat) (n : Nat) : qd a (fun j => t * x j) n = t * qd a x n := by
  have := qd_lin_r t a (fun _ => 0) x n
  rw [qd_zero_r (x := fun _ => 0) fun _ _ => rfl] at this
  have e : (fun j => (fun _ => (0 : Rat)) j + t * x j) = fun j => t * x j := funext fun j => by dsimp only; grind
  rw [e] at this
  grind
/-- where no shares make a row, a way leads on for ever, the row growing -/
theorem Sys.open {S : Sys} {c x0 : V} (hx : S.feas x0) (no : ∀ y, S.For c y → ¬ S.indep y) : ∃ d : V, (∀ k, k < S.m → qd (S.A k) d S.n ≤ 0) ∧ qd c d S.n = 1 := by
  rcases (Sys.more ⟨S.m, S.n, S.A, fun _ => 0⟩ (fun j => -(c j)) (-1)).farkas with ⟨d, h⟩ | ⟨y, y0, y1, y2⟩
  · obtain ⟨h1, h2⟩ := more_feas.mp h
    have h2 : qd (fun j => -(c j)) d S.n ≤ -1 := h2
    rw [qd_neg] at h2
    have p : 0 < qd c d S.n := by grind
    refine ⟨fun j => (qd c d S.n)⁻¹ * d j, fun k hk => ?_, ?_⟩
    · rw [qd_smul_r]
      have h1 : qd (S.A k) d S.n ≤ 0 := h1 k hk
      have ip : 0 ≤ (qd c d S.n)⁻¹ := Classical.byContradiction fun z => by
        have : 0 < -((qd c d S.n)⁻¹) * qd c d S.n := Rat.mul_pos (by grind) p
        have e : (qd c d S.n)⁻¹ * qd c d S.n = 1 := by grind
        grind
      have := Rat.mul_le_mul_of_nonneg_left h1 ip
      grind
    · rw [qd_smul_r]
      grind
  · rw [more_cost] at y2
    have c0 : Sys.cost ⟨S.m, S.n, S.A, fun _ => 0⟩ y = 0 := qd_zero_r fun _ _ => rfl
    rw [c0] at y2
    have dp : 0 < y S.m := by
      show 0 < y S.m
      have y2 : 0 + y S.m * -1 < 0 := y2
      grind
    have z1 : ∀ j, j < S.n → S.at y j = y S.m * c j := fun j hj => by
      have := y1 j hj
      rw [more_at] at this
      have this : S.at y j + y S.m * -(c j) = 0 := this
      grind
    obtain ⟨f, -⟩ := scale_for (c := c) y0 dp z1
    obtain ⟨y', a1, a2, a3, a4, a5⟩ := S.basic hx _ _ (Nat.le_refl _) f.nn f.out
    exact absurd a5 (no y' ⟨a1, a2, fun j hj => by rw [a3 j hj]; exact f.eq j hj⟩)
/-! ### corners -/
/-- the rows that are met just so leave nothing free that another row sees -/
def Sys.full (S : Sys) (x : V) : Prop := ∀ d : V, (∀ k, k < S.m → qd (S.A k) x S.n = S.b k → qd (S.A k) d S.n = 0) → ∀ k, k < S.m → qd (S.A k) d S.n = 0
def Sys.slack (S : Sys) (x : V) : V := fun k => if k < S.m then S.b k - qd (S.A k) x S.n else 0
theorem Sys.corner {S : Sys} {c : V} {v : Rat} (top : ∀ x, S.feas x → qd c x S.n ≤ v) : ∀ (N : Nat) (x : V), cnt (S.slack x) S.m ≤ N → S.feas x → qd c x S.n = v → ∃ x', S.feas x' ∧ qd c x' S.n = v ∧ S.full x' := by
  intro N
  induction N with
  | zero =>
    intro x hc hx hv
    refine ⟨x, hx, hv, fun d hd k hk => hd k hk (Classical.byContradiction fun w => ?_)⟩
    have : k ∈ (List.range S.m).filter fun k => decide (S.slack x k ≠ 0) := List.mem_filter.mpr ⟨List.mem_range.mpr hk, decide_eq_true (by unfold Sys.slack; rw [if_pos hk]; grind)⟩
    unfold cnt at hc
    rw [List.length_eq_zero_iff.mp (Nat.le_zero.mp hc)] at this
    cases this
  | succ N ih =>
    intro x hc hx hv
    by_cases hf : S.full x
    · exact ⟨x, hx, hv, hf⟩
    unfold Sys.full at hf
    obtain ⟨d, hd⟩ := Classical.not_forall.mp hf
    obtain ⟨d1, hd⟩ := Classical.not_imp.mp hd
    obtain ⟨k0, hd⟩ := Classical.not_forall.mp hd
    obtain ⟨k0m, hd⟩ := Classical.not_imp.mp hd
    -- one way or the other
    have pick : ∃ d : V, (∀ k, k < S.m → qd (S.A k) x S.n = S.b k → qd (S.A k) d S.n = 0) ∧ ∃ k, k < S.m ∧ 0 < qd (S.A k) d S.n := by
      by_cases h : 0 < qd (S.A k0) d S.n
      · exact ⟨d, d1, k0, k0m, h⟩
      · refine ⟨fun j => -(d j), fun k hk e => by rw [qd_neg_r, d1 k hk e]; decide, k0, k0m, by rw [qd_neg_r]; grind⟩
    obtain ⟨d, d1, k1, k1m, k1p⟩ := pick
    have step : ∀ d : V, (∀ k, k < S.m → qd (S.A k) x S.n = S.b k → qd (S.A k) d S.n = 0) → (∃ k, k < S.m ∧ 0 < qd (S.A k) d S.n) →
        ∃ t : Rat, 0 < t ∧ S.feas (fun j => x j + t * d j) ∧ cnt (S.slack fun j => x j + t * d j) S.m < cnt (S.slack x) S.m := fun d d1 ⟨k1, k1m, k1p⟩ => by
      obtain ⟨t, t0, t1, i, i1, i2, i3⟩ := shrink (y := S.slack x) (z := fun k => if k < S.m then -(qd (S.A k) d S.n) else 0) (m := S.m) (fun k => by
          unfold Sys.slack
          split
          · have := hx k (by assumption); grind
          · exact Rat.le_refl) (fun k hk hz e => by
          unfold Sys.slack at e
          rw [if_pos hk] at e hz
          apply hz
          rw [d1 k hk (by grind)]
          decide) ⟨k1, k1m, by rw [if_pos k1m]; grind⟩ fun k hk => if_neg (by omega)
      have es : ∀ k, S.slack (fun j => x j + t * d j) k = S.slack x k + t * (if k < S.m then -(qd (S.A k) d S.n) else 0) := fun k => by
        unfold Sys.slack
        by_cases hk : k < S.m
        · rw [if_pos hk, if_pos hk, if_pos hk, qd_lin_r]; grind
        · rw [if_neg hk, if_neg hk, if_neg hk]; grind
      refine ⟨t, t0, fun k hk => ?_, cnt_lt (fun k hk hne e => hne ?_) i1 i2 (by rw [es]; exact i3)⟩
      · have := t1 k
        rw [← es] at this
        unfold Sys.slack at this
        rw [if_pos hk] at this
        grind
      · rw [es, e, if_pos hk]
        unfold Sys.slack at e
        rw [if_pos hk] at e
        rw [d1 k hk (by grind)]
        grind
    obtain ⟨t, t0, f1, f2⟩ := step d d1 ⟨k1, k1m, k1p⟩
    have le1 := top _ f1
    rw [qd_lin_r] at le1
    have ge1 : 0 ≤ qd c d S.n := by
      have n1 : ∀ k, k < S.m → qd (S.A k) x S.n = S.b k → qd (S.A k) (fun j => -(d j)) S.n = 0 := fun k hk e => by rw [qd_neg_r, d1 k hk e]; decide
      by_cases h : ∃ k, k < S.m ∧ 0 < qd (S.A k) (fun j => -(d j)) S.n
      · obtain ⟨u, u0, g1, -⟩ := step _ n1 h
        have := top _ g1
        rw [qd_lin_r, qd_neg_r] at this
        refine Classical.byContradiction fun z => ?_
        have m := Rat.mul_pos u0 (show 0 < -(qd c d S.n) by grind)
        grind
      · have g1 : S.feas (fun j => x j + 1 * -(d j)) := fun k hk => by
          have e := qd_lin_r 1 (S.A k) x (fun j => -(d j)) S.n
          rw [e]
          have := hx k hk
          have h2 : qd (S.A k) (fun j => -(d j)) S.n ≤ 0 := Classical.byContradiction fun z => h ⟨k, hk, by grind⟩
          grind
        have := top _ g1
        have e := qd_lin_r 1 c x (fun j => -(d j)) S.n
        rw [e, qd_neg_r] at this
        grind
    have z : qd c d S.n = 0 := by
      refine Classical.byContradiction fun z => ?_
      have m := Rat.mul_pos t0 (show 0 < qd c d S.n by grind)
      grind
    exact ih _ (by omega) f1 (by rw [qd_lin_r, z]; grind)
end Lp

/-! Linear inequalities over the rationals, part 5: equations by steps. -/
namespace Lp
open Dl
theorem qd_one {a y : V} {p : Nat} : ∀ {n : Nat}, p < n → (∀ j, j < n → j ≠ p → a j * y j = 0) → qd a y n = a p * y p
  | n + 1, hp, h => by
    unfold qd
    by_cases e : p = n
    · subst e
      have z : qd a y p = 0 := by
        have : ∀ m, m ≤ p → qd a y m = 0 := fun m => by
          induction m with
          | zero => intro _; rfl
          | succ m ih => intro hm; unfold qd; rw [ih (by omega), h m (by omega) (by omega)]; grind
        exact this p (Nat.le_refl _)
      rw [z]; grind
    · rw [qd_one (n := n) (by omega) fun j hj hne => h j (by omega) hne, h n (by omega) (by omega)]; grind
theorem qd_all0 {a y : V} : ∀ {n : Nat}, (∀ j, j < n → a j * y j = 0) → qd a y n = 0
  | 0, _ => rfl
  | n + 1, h => by unfold qd; rw [qd_all0 (n := n) fun j hj => h j (by omega), h n (by omega)]; grind
def rq (r : Nat → Int) : V := fun j => (r j : Rat)
theorem qd_int (r y : Nat → Int) : ∀ n, qd (rq r) (rq y) n = ((dot r y n : Int) : Rat)
  | 0 => rfl
  | n + 1 => by
    unfold qd dot
    rw [qd_int r y n]
    unfold rq
    rw [Rat.intCast_add, Rat.intCast_mul]
/-- one bottom for all -/
theorem common_den (y : V) : ∀ w : Nat, ∃ (D : Int) (Y : Nat → Int), 0 < D ∧ ∀ j, j < w → (Y j : Rat) = (D : Rat) * y j
  | 0 => ⟨1, fun _ => 0, by decide, fun j hj => absurd hj (Nat.not_lt_zero j)⟩
  | w + 1 => by
    obtain ⟨D, Y, hD, h⟩ := common_den y w
    refine ⟨D * ((y w).den : Int), fun j => if j < w then Y j * ((y w).den : Int) else D * (y w).num, Int.mul_pos hD (by have := (y w).den_pos; omega), fun j hj => ?_⟩
    by_cases e : j < w
    · dsimp only
      rw [if_pos e, Rat.intCast_mul, Rat.intCast_mul, h j e]; grind
    · have : j = w := by omega
      subst this
      dsimp only
      rw [if_neg e, Rat.intCast_mul, Rat.intCast_mul]
      have : ((y j).num : Rat) = y j * ((y j).den : Int) := by
        have h1 := Rat.num_divInt_den (y j)
        rw [Rat.divInt_eq_div] at h1
        have dn : (((y j).den : Int) : Rat) ≠ 0 := fun z => by
          have z2 : ((y j).den : Int) = 0 := Rat.intCast_inj.mp z
          have := (y j).den_pos
          omega
        generalize (((y j).den : Int) : Rat) = d at *
        generalize ((y j).num : Rat) = u at *
        rw [← h1]
        grind
      rw [this]; grind
def KnQ (w m : Nat) (R : Mat) (y : V) : Prop := ∀ k, k < m → qd (rq (R k)) y w = 0
theorem knq_iff {w m : Nat} {R R0 : Mat} (h : ∀ y, Kn w m R y ↔ Kn w m R0 y) (y : V) : KnQ w m R y ↔ KnQ w m R0 y := by
  obtain ⟨D, Y, hD, hY⟩ := common_den y w
  have key : ∀ R : Mat, KnQ w m R y ↔ Kn w m R Y := fun R => by
    have e : ∀ k, ((dot (R k) Y w : Int) : Rat) = (D : Rat) * qd (rq (R k)) y w := fun k => by
      rw [← qd_int, ← qd_smul_r]
      exact qd_congr (fun _ _ => rfl) fun j hj => hY j hj
    have dn : (D : Rat) ≠ 0 := fun z => by
      have := Rat.intCast_inj.mp (show ((D : Int) : Rat) = ((0 : Int) : Rat) from z)
      omega
    constructor
    · intro h k hk
      have := e k
      rw [h k hk] at this
      exact Rat.intCast_inj.mp (by rw [this]; show (D : Rat) * 0 = ((0 : Int) : Rat); rw [Rat.mul_zero]; rfl)
    · intro h k hk
      have := e k
      rw [h k hk] at this
      have z : (D : Rat) * qd (rq (R k)) y w = 0 := this.symm
      grind
  rw [key R, key R0]
  exact h Y
/-! ### a system of equations, its rows brought to steps -/
section
variable {m c : Nat} {T : Mat}
theorem ech_of (m c : Nat) (T : Mat) : Ech (c + 1) m c T (redG (c + 1) m T c).1 (redG (c + 1) m T c).2 := red_ech (Nat.le_succ c)
/-- what meets the equations, with -1 behind -/
def sol (m c : Nat) (T : Mat) (y : V) : Prop := ∀ k, k < m → qd (rq (T k)) y c = (T k c : Rat)
def ext (c : Nat) (y : V) (e : Rat) : V := fun j => if j < c then y j else e
theorem qd_ext (a y : V) (e : Rat) (c : Nat) : qd a (ext c y e) (c + 1) = qd a y c + a c * e := by
  show qd a (ext c y e) c + a c * ext c y e c = _
  rw [qd_congr (a := a) (b := a) (x := ext c y e) (y := y) (fun _ _ => rfl) (fun j hj => if_pos hj), show ext c y e c = e from if_neg (Nat.lt_irrefl c)]
theorem sol_kn {y : V} : sol m c T y ↔ KnQ (c + 1) m T (ext c y (-1)) := by
  unfold sol KnQ
  constructor
  · intro h k hk
    rw [qd_ext, h k hk]
    show (T k c : Rat) + (T k c : Rat) * -1 = 0
    grind
  · intro h k hk
    have := h k hk
    rw [qd_ext] at this
    have this : qd (rq (T k)) y c + (T k c : Rat) * -1 = 0 := this
    grind
/-- equations that can be met are told to be met -/
theorem not_bad {R : Mat} {ps : List Nat} (e : Ech (c + 1) m c T R ps) {y : V} (h : sol m c T y) : badG m c R ps.length = false := by
  have hk := (knq_iff e.kn _).mpr (sol_kn.mp h)
  unfold badG
  rw [List.any_eq_false]
  intro k hkm hb
  have km := List.mem_range.mp hkm
  rw [Bool.and_eq_true] at hb
  have b1 := of_decide_eq_true hb.1
  have b2 := of_decide_eq_true hb.2
  have := hk k km
  rw [qd_ext, qd_all0 fun j hj => ?_] at this
  · have this : 0 + (R k c : Rat) * -1 = 0 := this
    exact b2 (Rat.intCast_inj.mp (by show (R k c : Rat) = ((0 : Int) : Rat); have e0 : ((0 : Int) : Rat) = 0 := rfl; grind))
  · have z : R k j = 0 := by
      by_cases hj2 : j ∈ ps
      · obtain ⟨i, hi⟩ := List.getElem?_of_mem hj2
        have il := (List.getElem?_eq_some_iff.mp hi).1
        exact (e.piv i j hi).2 k km (by omega)
      · exact e.out j hj hj2 k b1 km
    show (R k j : Rat) * y j = 0
    rw [z]
    show (0 : Rat) * y j = 0
    grind
/-- the numbers told -/
def xR (R : Mat) (c : Nat) (ps : List Nat) : V := fun q => if q ∈ ps then (R (ps.idxOf q) c : Rat) / (R (ps.idxOf q) q : Rat) else 0
theorem ne_q {i : Int} (h : i ≠ 0) : (i : Rat) ≠ 0 := fun z => h (Rat.intCast_inj.mp (show (i : Rat) = ((0 : Int) : Rat) from z))
theorem xR_sol {R : Mat} {ps : List Nat} (e : Ech (c + 1) m c T R ps) (hb : badG m c R ps.length = false) : sol m c T (xR R c ps) := by
  refine sol_kn.mpr ((knq_iff e.kn _).mp fun k hk => ?_)
  rw [qd_ext]
  by_cases hl : k < ps.length
  · have hq : ps[k]? = some ps[k] := List.getElem?_eq_getElem hl
    have qc := e.lt _ (List.getElem_mem hl)
    obtain ⟨v1, v2⟩ := e.piv k _ hq
    have ix := idx_of (inc_nodup e.inc) hq
    rw [qd_one (p := ps[k]) qc fun j hj hne => ?_]
    · show (R k ps[k] : Rat) * xR R c ps ps[k] + (R k c : Rat) * -1 = 0
      unfold xR
      rw [if_pos (List.getElem_mem hl), ix]
      have := ne_q v1
      grind
    · show (R k j : Rat) * xR R c ps j = 0
      unfold xR
      by_cases hj2 : j ∈ ps
      · obtain ⟨i, hi⟩ := List.getElem?_of_mem hj2
        have : i ≠ k := fun z => by subst z; rw [hq] at hi; exact hne (Option.some.inj hi).symm
        rw [(e.piv i j hi).2 k hk (Ne.symm this)]
        show (0 : Rat) * _ = 0
        grind
      · rw [if_neg hj2]; grind
  · have hz : R k c = 0 := Classical.byContradiction fun z => by
      unfold badG at hb
      rw [List.any_eq_false] at hb
      refine hb k (List.mem_range.mpr hk) ?_
      rw [decide_eq_true (by omega), decide_eq_true z]
      rfl
    rw [qd_all0 fun j hj => ?_]
    · show (0 : Rat) + (R k c : Rat) * -1 = 0
      rw [hz]
      have : ((0 : Int) : Rat) = 0 := rfl
      grind
    · have z : R k j = 0 := by
        by_cases hj2 : j ∈ ps
        · obtain ⟨i, hi⟩ := List.getElem?_of_mem hj2
          have il := (List.getElem?_eq_some_iff.mp hi).1
          exact (e.piv i j hi).2 k hk (by omega)
        · exact e.out j hj hj2 k (by omega) hk
      show (R k j : Rat) * _ = 0
      rw [z]
      show (0 : Rat) * _ = 0
      grind
/-- a place that is free: numbers that come to nought, 1 there, nought at the other free ones -/
def zR (R : Mat) (ps : List Nat) (q : Nat) : V := fun j => if j = q then 1 else if j ∈ ps then -(R (ps.idxOf j) q : Rat) / (R (ps.idxOf j) j : Rat) else 0
def ker (m c : Nat) (T : Mat) (y : V) : Prop := ∀ k, k < m → qd (rq (T k)) y c = 0
theorem ker_kn {y : V} : ker m c T y ↔ KnQ (c + 1) m T (ext c y 0) := by
  unfold ker KnQ
  constructor
  · intro h k hk
    rw [qd_ext, h k hk]; grind
  · intro h k hk
    have := h k hk
    rw [qd_ext] at this
    grind
theorem zR_ker {R : Mat} {ps : List Nat} (e : Ech (c + 1) m c T R ps) {q : Nat} (hq : q < c) (hn : q ∉ ps) : ker m c T (zR R ps q) := by
  refine ker_kn.mpr ((knq_iff e.kn _).mp fun k hk => ?_)
  rw [qd_ext]
  by_cases hl : k < ps.length
  · have hp : ps[k]? = some ps[k] := List.getElem?_eq_getElem hl
    have pc := e.lt _ (List.getElem_mem hl)
    obtain ⟨v1, v2⟩ := e.piv k _ hp
    have ix := idx_of (inc_nodup e.inc) hp
    have pq : ps[k] ≠ q := fun z => hn (z ▸ List.getElem_mem hl)
    -- two places: the pivot and q
    have split : qd (rq (R k)) (zR R ps q) c = (R k ps[k] : Rat) * zR R ps q ps[k] + (R k q : Rat) := by
      have h1 : zR R ps q = fun j => (if j = q then 0 else zR R ps q j) + 1 * (if j = q then 1 else 0) := funext fun j => by
        by_cases z : j = q
        · rw [if_pos z, if_pos z]; unfold zR; rw [if_pos z]; grind
        · rw [if_neg z, if_neg z]; grind
      conv => lhs; rw [h1]
      rw [qd_lin_r 1 (rq (R k)) (fun j => if j = q then 0 else zR R ps q j) (fun j => if j = q then 1 else 0) c, qd_one (p := ps[k]) pc fun j hj hne => ?_, qd_one (p := q) hq fun j hj hne => ?_]
      · rw [if_pos rfl, if_neg pq]
        show (R k ps[k] : Rat) * _ + 1 * ((R k q : Rat) * 1) = _
        grind
      · rw [if_neg hne]; grind
      · by_cases z : j = q
        · rw [if_pos z]; grind
        · rw [if_neg z]
          unfold zR
          rw [if_neg z]
          by_cases hj2 : j ∈ ps
          · obtain ⟨i, hi⟩ := List.getElem?_of_mem hj2
            have : i ≠ k := fun w => by subst w; rw [hp] at hi; exact hne (Option.some.inj hi).symm
            show (R k j : Rat) * _ = 0
            rw [(e.piv i j hi).2 k hk (Ne.symm this)]
            show (0 : Rat) * _ = 0
            grind
          · rw [if_neg hj2]; grind
    rw [split]
    unfold zR
    rw [if_neg pq, if_pos (List.getElem_mem hl), ix]
    have := ne_q v1
    grind
  · rw [qd_all0 fun j hj => ?_]
    · grind
    · have z : R k j = 0 := by
        by_cases hj2 : j ∈ ps
        · obtain ⟨i, hi⟩ := List.getElem?_of_mem hj2
          have il := (List.getElem?_eq_some_iff.mp hi).1
          exact (e.piv i j hi).2 k hk (by omega)
        · exact e.out j hj hj2 k (by omega) hk
      show (R k j : Rat) * _ = 0
      rw [z]
      show (0 : Rat) * _ = 0
      grind
/-- where each place is a step, nothing but nought comes to nought -/
theorem ker_full {R : Mat} {ps : List Nat} (e : Ech (c + 1) m c T R ps) (hl : ps.length = c) {y : V} (h : ker m c T y) : ∀ j, j < c → y j = 0 := fun j hj => by
  have hps := inc_full e.inc e.lt hl
  have hi : ps[j]? = some j := by rw [hps, List.getElem?_range hj]
  obtain ⟨v1, v2⟩ := e.piv j j hi
  have jm : j < m := by have := e.len; omega
  have := (knq_iff e.kn _).mpr (ker_kn.mp h) j jm
  rw [qd_ext, qd_one (p := j) hj fun i hi2 hne => ?_] at this
  · have this : (R j j : Rat) * y j + rq (R j) c * 0 = 0 := this
    have := ne_q v1
    grind
  · have hi3 : ps[i]? = some i := by rw [hps, List.getElem?_range hi2]
    show (R j i : Rat) * _ = 0
    rw [(e.piv i i hi3).2 j jm (Ne.symm hne)]
    show (0 : Rat) * _ = 0
    grind
end
end Lp

/-! Linear inequalities over the rationals, part 6: picked rows. -/
namespace Lp
open Dl
/-- a room as a system -/
def sysOf (m n : Nat) (R : Mat) : Sys := ⟨m, n, fun k => rq (R k), fun k => (R k n : Rat)⟩
/-- shares of picked rows, as shares of all -/
def emb (P : List Nat) (y : V) : V := fun k => if k ∈ P then y (P.idxOf k) else 0
theorem emb_qd (y a : V) (m : Nat) : ∀ P : List Nat, P.Nodup → (∀ k ∈ P, k < m) → qd (emb P y) a m = qd y (fun j => a (P.getD j 0)) P.length := fun P => by
  induction hl : P.length generalizing P with
  | zero =>
    intro _ _
    have : P = [] := List.length_eq_zero_iff.mp hl
    subst this
    exact qd_zero fun j _ => if_neg List.not_mem_nil
  | succ p ih =>
    intro hn hm
    obtain ⟨Q, k0, rfl⟩ : ∃ Q k0, P = Q ++ [k0] := by
      have : P ≠ [] := fun z => by rw [z] at hl; cases hl
      exact ⟨P.dropLast, P.getLast this, (List.dropLast_concat_getLast this).symm⟩
    rw [List.length_append, List.length_singleton] at hl
    have hq : Q.length = p := by omega
    rw [List.nodup_append] at hn
    have kn : k0 ∉ Q := fun z => hn.2.2 _ z _ List.mem_cons_self rfl
    have e : emb (Q ++ [k0]) y = fun k => if k = k0 then y p + emb Q y k else emb Q y k := funext fun k => by
      unfold emb
      by_cases z : k = k0
      · subst z
        rw [if_pos (List.mem_append_right _ List.mem_cons_self), if_pos rfl, if_neg kn, List.idxOf_append, if_neg kn, hq]
        rw [show List.idxOf k [k] = 0 from by simp]
        rw [Nat.zero_add]
        grind
      · rw [if_neg z]
        by_cases w : k ∈ Q
        · rw [if_pos (List.mem_append_left _ w), if_pos w, List.idxOf_append, if_pos w]
        · rw [if_neg w, if_neg (fun u => (List.mem_append.mp u).elim w fun v => z (List.mem_singleton.mp v))]
    rw [e, qd_upd, if_pos (hm k0 (List.mem_append_right _ List.mem_cons_self)), ih Q hq hn.1 fun k hk => hm k (List.mem_append_left _ hk)]
    show _ = qd y (fun j => a ((Q ++ [k0]).getD j 0)) p + y p * a ((Q ++ [k0]).getD p 0)
    congr 1
    · exact qd_congr (fun _ _ => rfl) fun j hj => by
        rw [List.getD_eq_getElem?_getD, List.getD_eq_getElem?_getD, List.getElem?_append_left (by omega)]
    · rw [List.getD_eq_getElem?_getD, List.getElem?_append_right (by omega), hq, Nat.sub_self]
      rfl
/-- the rows that have a share, in order -/
def supp (m : Nat) (y : V) : List Nat := (List.range m).filter fun k => decide (y k ≠ 0)
theorem supp_mem {m k : Nat} {y : V} : k ∈ supp m y ↔ k < m ∧ y k ≠ 0 := by
  unfold supp
  rw [List.mem_filter, List.mem_range, decide_eq_true_iff]
theorem range_inc (m : Nat) : (List.range m).Pairwise (· < ·) := by
  rw [List.pairwise_iff_getElem]
  intro i j hi hj h
  rw [List.getElem_range, List.getElem_range]
  exact h
theorem supp_inc (m : Nat) (y : V) : (supp m y).Pairwise (· < ·) := (range_inc m).filter _
theorem getD_mem {P : List Nat} {j : Nat} (h : j < P.length) : P.getD j 0 ∈ P := by
  rw [List.getD_eq_getElem?_getD, List.getElem?_eq_getElem h]
  exact List.getElem_mem h
theorem idx_getD {P : List Nat} (hn : P.Nodup) {j : Nat} (h : j < P.length) : P.idxOf (P.getD j 0) = j := by
  refine idx_of hn ?_
  rw [List.getD_eq_getElem?_getD, List.getElem?_eq_getElem h]
  rfl
theorem getD_idx {P : List Nat} {k : Nat} (h : k ∈ P) : P.getD (P.idxOf k) 0 = k := by
  have hl := List.idxOf_lt_length_of_mem h
  rw [List.getD_eq_getElem?_getD, List.getElem?_eq_getElem hl]
  exact List.getElem_idxOf hl
/-- shares that only picked rows have -/
theorem emb_of {P : List Nat} {Y : V} (h : ∀ k, Y k ≠ 0 → k ∈ P) : emb P (fun j => Y (P.getD j 0)) = Y := funext fun k => by
  unfold emb
  by_cases hk : k ∈ P
  · rw [if_pos hk]
    show Y (P.getD (P.idxOf k) 0) = Y k
    rw [getD_idx hk]
  · rw [if_neg hk]
    exact (Classical.byContradiction fun z => hk (h k fun e => z e.symm))
/-- the equations for shares of picked rows -/
def tM (R : Mat) (P : List Nat) (tg : Nat → Int) : Mat := fun i j => if j < P.length then R (P.getD j 0) i else tg i
theorem tM_sol {m n : Nat} {R : Mat} {P : List Nat} {tg : Nat → Int} (hn : P.Nodup) (hm : ∀ k ∈ P, k < m) (y : V) : sol n P.length (tM R P tg) y ↔ ∀ i, i < n → (sysOf m n R).at (emb P y) i = (tg i : Rat) := by
  have e : ∀ i, (sysOf m n R).at (emb P y) i = qd (rq (tM R P tg i)) y P.length := fun i => by
    unfold Sys.at sysOf
    rw [emb_qd _ _ _ _ hn hm]
    have comm : ∀ (a b : V) n, qd a b n = qd b a n := fun a b n => by
      induction n with
      | zero => rfl
      | succ n ih => unfold qd; rw [ih]; grind
    rw [comm]
    exact qd_congr (fun j hj => by unfold rq tM; rw [if_pos hj]) fun _ _ => rfl
  have et : ∀ i, (tM R P tg i P.length : Rat) = (tg i : Rat) := fun i => by unfold tM; rw [if_neg (Nat.lt_irrefl _)]
  unfold sol
  constructor
  · intro h i hi; rw [e, h i hi, et]
  · intro h i hi; rw [← e, h i hi, et]
theorem tM_ker {m n : Nat} {R : Mat} {P : List Nat} {tg : Nat → Int} (hn : P.Nodup) (hm : ∀ k ∈ P, k < m) (y : V) : ker n P.length (tM R P tg) y ↔ ∀ i, i < n → (sysOf m n R).at (emb P y) i = 0 := by
  have e : ∀ i, (sysOf m n R).at (emb P y) i = qd (rq (tM R P tg i)) y P.length := fun i => by
    unfold Sys.at sysOf
    rw [emb_qd _ _ _ _ hn hm]
    have comm : ∀ (a b : V) n, qd a b n = qd b a n := fun a b n => by
      induction n with
      | zero => rfl
      | succ n ih => unfold qd; rw [ih]; grind
    rw [comm]
    exact qd_congr (fun j hj => by unfold rq tM; rw [if_pos hj]) fun _ _ => rfl
  unfold ker
  constructor
  · intro h i hi; rw [e, h i hi]
  · intro h i hi; rw [← e, h i hi]
/-! ### shares from independent rows -/
abbrev stp (m c : Nat) (T : Mat) : Mat × List Nat := redG (c + 1) m T c
/-- picked rows that make a target by shares not below 0, and are independent -/
structure Good (n : Nat) (R : Mat) (P : List Nat) (tg : Nat → Int) : Prop where
  ok : badG n P.length (stp n P.length (tM R P tg)).1 (stp n P.length (tM R P tg)).2.length = false
  ful : (stp n P.length (tM R P tg)).2.length = P.length
  nn : ∀ j, j < P.length → 0 ≤ xR (stp n P.length (tM R P tg)).1 P.length (stp n P.length (tM R P tg)).2 j
abbrev xP (n : Nat) (R : Mat) (P : List Nat) (tg : Nat → Int) : V := xR (stp n P.length (tM R P tg)).1 P.length (stp n P.length (tM R P tg)).2
theorem good_for {m n : Nat} {R : Mat} {P : List Nat} {tg : Nat → Int} (hn : P.Nodup) (hm : ∀ k ∈ P, k < m) (g : Good n R P tg) : (sysOf m n R).For (rq tg) (emb P (xP n R P tg)) where
  nn := fun k => by
    unfold emb
    split
    · exact g.nn _ (List.idxOf_lt_length_of_mem (by assumption))
    · exact Rat.le_refl
  out := fun k hk => if_neg fun z => absurd (hm k z) (Nat.not_lt.mpr hk)
  eq := fun j hj => (tM_sol hn hm _).mp (xR_sol (ech_of n P.length (tM R P tg)) g.ok) j hj
/-- independent shares are those of a good pick -/
theorem for_good {m n : Nat} {R : Mat} {tg : Nat → Int} {y : V} (f : (sysOf m n R).For (rq tg) y) (i : (sysOf m n R).indep y) :
    Good n R (supp m y) tg ∧ emb (supp m y) (xP n R (supp m y) tg) = y := by
  have hin := supp_inc m y
  have hn := inc_nodup hin
  have hm : ∀ k ∈ supp m y, k < m := fun k hk => (supp_mem.mp hk).1
  have he := ech_of n (supp m y).length (tM R (supp m y) tg)
  have ey : emb (supp m y) (fun j => y ((supp m y).getD j 0)) = y := emb_of fun k hk => supp_mem.mpr ⟨Classical.byContradiction fun z => hk (f.out k (Nat.not_lt.mp z)), hk⟩
  have hs : sol n (supp m y).length (tM R (supp m y) tg) fun j => y ((supp m y).getD j 0) := (tM_sol hn hm _).mpr fun j hj => by rw [ey]; exact f.eq j hj
  have hb := not_bad he hs
  have triv : ∀ z : V, ker n (supp m y).length (tM R (supp m y) tg) z → ∀ j, j < (supp m y).length → z j = 0 := fun z hz j hj => by
    have h1 := (tM_ker (m := m) hn hm z).mp hz
    have h2 := i (emb (supp m y) z) (fun k hk => by
      unfold emb at hk
      by_cases w : k ∈ supp m y
      · exact supp_mem.mp w
      · rw [if_neg w] at hk; exact absurd rfl hk) h1 ((supp m y).getD j 0)
    unfold emb at h2
    rw [if_pos (getD_mem hj), idx_getD hn hj] at h2
    exact h2
  have full : (stp n (supp m y).length (tM R (supp m y) tg)).2.length = (supp m y).length := Classical.byContradiction fun w => by
    have le := inc_len he.inc he.lt
    obtain ⟨q, q1, q2⟩ := inc_gap he.inc he.lt (Nat.lt_of_le_of_ne le w)
    have := triv _ (zR_ker he q1 q2) q q1
    unfold zR at this
    rw [if_pos rfl] at this
    exact absurd this (by decide)
  have ex : ∀ j, j < (supp m y).length → xP n R (supp m y) tg j = y ((supp m y).getD j 0) := fun j hj => by
    have s1 := xR_sol he hb
    have kz : ker n (supp m y).length (tM R (supp m y) tg) fun j => xP n R (supp m y) tg j + (-1) * y ((supp m y).getD j 0) := fun k hk => by
      rw [qd_lin_r, s1 k hk, hs k hk]; grind
    have := triv _ kz j hj
    grind
  refine ⟨⟨hb, full, fun j hj => by rw [show xR _ _ _ j = _ from ex j hj]; exact f.nn _⟩, ?_⟩
  conv => rhs; rw [← ey]
  funext k
  unfold emb
  by_cases w : k ∈ supp m y
  · rw [if_pos w, if_pos w]
    exact ex _ (List.idxOf_lt_length_of_mem w)
  · rw [if_neg w, if_neg w]
end Lp

/-! Linear inequalities over the rationals, part 7: rings by steps; dimensions. -/
namespace Lp
open Dl
/-- the places that are no steps -/
def frees (p : Nat) (ps : List Nat) : List Nat := (List.range p).filter fun k => decide (k ∉ ps)
theorem frees_mem {p k : Nat} {ps : List Nat} : k ∈ frees p ps ↔ k < p ∧ k ∉ ps := by
  unfold frees
  rw [List.mem_filter, List.mem_range, decide_eq_true_iff]
theorem frees_len {p : Nat} {ps : List Nat} (h1 : ps.Pairwise (· < ·)) (h2 : ∀ q ∈ ps, q < p) : ps.length + (frees p ps).length = p := by
  have e : ((List.range p).filter fun k => decide (k ∈ ps)).length = ps.length := by
    refine List.Perm.length_eq ((List.perm_ext_iff_of_nodup ((List.nodup_range).filter _) (inc_nodup h1)).mpr fun k => ?_)
    rw [List.mem_filter, List.mem_range, decide_eq_true_iff]
    exact ⟨fun h => h.2, fun h => ⟨h2 k h, h⟩⟩
  have s := List.length_eq_countP_add_countP (p := fun k => decide (k ∈ ps)) (l := List.range p)
  rw [List.length_range, List.countP_eq_length_filter, e, List.countP_eq_length_filter] at s
  unfold frees
  have : (List.range p).filter (fun k => decide (k ∉ ps)) = (List.range p).filter fun a => decide ¬decide (a ∈ ps) = true := List.filter_congr fun k _ => by
    by_cases h : k ∈ ps <;> simp [h]
  rw [this]
  omega
/-- picked rows whose shares, above nought, come to nought: the only ones -/
structure RingP (n : Nat) (R : Mat) (P : List Nat) (q : Nat) : Prop where
  len : (stp n P.length (tM R P fun _ => 0)).2.length + 1 = P.length
  free : frees P.length (stp n P.length (tM R P fun _ => 0)).2 = [q]
  pos : ∀ j, j < P.length → 0 < zR (stp n P.length (tM R P fun _ => 0)).1 (stp n P.length (tM R P fun _ => 0)).2 q j
abbrev zP (n : Nat) (R : Mat) (P : List Nat) (q : Nat) : V := zR (stp n P.length (tM R P fun _ => 0)).1 (stp n P.length (tM R P fun _ => 0)).2 q
theorem ring_shut {m n : Nat} {R : Mat} {P : List Nat} {q : Nat} (hn : P.Nodup) (hm : ∀ k ∈ P, k < m) (r : RingP n R P q) (hc : (sysOf m n R).cost (emb P (zP n R P q)) < 0) : (sysOf m n R).Shut (emb P (zP n R P q)) where
  nn := fun k => by
    unfold emb
    split
    · exact Rat.le_of_lt (r.pos _ (List.idxOf_lt_length_of_mem (by assumption)))
    · exact Rat.le_refl
  out := fun k hk => if_neg fun z => absurd (hm k z) (Nat.not_lt.mpr hk)
  z := fun j hj => by
    have hq : q ∈ frees P.length (stp n P.length (tM R P fun _ => 0)).2 := by rw [r.free]; exact List.mem_cons_self
    obtain ⟨q1, q2⟩ := frees_mem.mp hq
    exact (tM_ker hn hm _).mp (zR_ker (ech_of n P.length (tM R P fun _ => 0)) q1 q2) j hj
  c := hc
theorem shut_empty {S : Sys} {y : V} (s : S.Shut y) (x : V) : ¬ S.feas x := fun h => by
  have := S.weak h fun k _ => s.nn k
  rw [qd_zero s.z] at this
  have := s.c
  grind
theorem emb_smul (P : List Nat) (c : Rat) (y : V) : emb P (fun j => c * y j) = fun k => c * emb P y k := funext fun k => by
  unfold emb
  split
  · rfl
  · grind
theorem cost_smul (S : Sys) (c : Rat) (y : V) : S.cost (fun k => c * y k) = c * S.cost y := by
  have := cost_lin S c (fun _ => 0) y
  have e : (fun k => (fun _ => (0 : Rat)) k + c * y k) = fun k => c * y k := funext fun k => by dsimp only; grind
  rw [e, cost_zero] at this
  grind
/-- a room without a point has such rows -/
theorem shut_ring {m n : Nat} {R : Mat} {y : V} (s : (sysOf m n R).Shut y) (r : (sysOf m n R).Ring y) :
    ∃ q, RingP n R (supp m y) q ∧ (sysOf m n R).cost (emb (supp m y) (zP n R (supp m y) q)) < 0 ∧ 0 < (supp m y).length ∧ (supp m y).length ≤ n + 1 := by
  have hin := supp_inc m y
  have hn := inc_nodup hin
  have hm : ∀ k ∈ supp m y, k < m := fun k hk => (supp_mem.mp hk).1
  have ey : emb (supp m y) (fun j => y ((supp m y).getD j 0)) = y := emb_of fun k hk => supp_mem.mpr ⟨Classical.byContradiction fun z => hk (s.out k (Nat.not_lt.mp z)), hk⟩
  have p0 : 0 < (supp m y).length := Classical.byContradiction fun z => by
    have e : supp m y = [] := List.length_eq_zero_iff.mp (Nat.le_zero.mp (Nat.not_lt.mp z))
    have : y = fun _ => 0 := by rw [← ey, e]; exact funext fun k => if_neg List.not_mem_nil
    have c := s.c
    rw [this, cost_zero] at c
    exact absurd c (by decide)
  generalize hP : supp m y = P at *
  have he : Ech (P.length + 1) n P.length (tM R P fun _ => 0) (stp n P.length (tM R P fun _ => 0)).1 (stp n P.length (tM R P fun _ => 0)).2 := ech_of n P.length (tM R P fun _ => 0)
  have yp : ∀ j, j < P.length → 0 < y (P.getD j 0) := fun j hj => by
    have h1 := s.nn (P.getD j 0)
    have h2 : y (P.getD j 0) ≠ 0 := ((supp_mem (m := m) (y := y) (k := P.getD j 0)).mp (by rw [hP]; exact getD_mem hj)).2
    grind
  have hk : ker n P.length (tM R P fun _ => 0) fun j => y (P.getD j 0) := (tM_ker (m := m) hn hm _).mpr fun i hi => by rw [ey]; exact s.z i hi
  -- each kernel vector is a number times y's
  have prop : ∀ z : V, ker n P.length (tM R P fun _ => 0) z → ∃ c : Rat, ∀ j, j < P.length → z j = c * y (P.getD j 0) := fun z hz => by
    obtain ⟨c, hc⟩ := r (emb P z) (fun k hkk => by
      unfold emb at hkk
      by_cases w : k ∈ P
      · exact (supp_mem (m := m) (y := y) (k := k)).mp (by rw [hP]; exact w)
      · rw [if_neg w] at hkk; exact absurd rfl hkk) ((tM_ker hn hm z).mp hz)
    refine ⟨c, fun j hj => ?_⟩
    have := hc (P.getD j 0)
    unfold emb at this
    rw [if_pos (getD_mem hj), idx_getD hn hj] at this
    exact this
  have fl := frees_len he.inc he.lt
  have f0 : (frees P.length (stp n P.length (tM R P fun _ => 0)).2).length ≠ 0 := fun z => by
    have := ker_full he (by omega) hk 0 p0
    have := yp 0 p0
    grind
  have at1 : ∀ q, q ∈ frees P.length (stp n P.length (tM R P fun _ => 0)).2 → ∀ j, j < P.length → 0 < zP n R P q j := fun q hq j hj => by
    obtain ⟨q1, q2⟩ := frees_mem.mp hq
    obtain ⟨c, hc⟩ := prop _ (zR_ker he q1 q2)
    have e1 := hc q q1
    have e2 : zP n R P q q = 1 := if_pos rfl
    have h1 := yp q q1
    have cp : 0 < c := Classical.byContradiction fun z => by
      have := Rat.mul_nonneg (a := -c) (b := y (P.getD q 0)) (by grind) (Rat.le_of_lt h1)
      grind
    have := Rat.mul_pos cp (yp j hj)
    have := hc j hj
    grind
  match hF : frees P.length (stp n P.length (tM R P fun _ => 0)).2 with
  | [] => rw [hF] at f0; exact absurd rfl f0
  | [q] =>
    have hq : q ∈ frees P.length (stp n P.length (tM R P fun _ => 0)).2 := by rw [hF]; exact List.mem_cons_self
    obtain ⟨q1, q2⟩ := frees_mem.mp hq
    rw [hF] at fl
    have fl : (stp n P.length (tM R P fun _ => 0)).2.length + 1 = P.length := fl
    refine ⟨q, ⟨fl, hF, at1 q hq⟩, ?_, p0, by have := he.len; omega⟩
    obtain ⟨c, hc⟩ := prop _ (zR_ker he q1 q2)
    have e : emb P (zP n R P q) = fun k => c * y k := by
      rw [show (fun k => c * y k) = fun k => c * emb P (fun j => y (P.getD j 0)) k from by rw [ey], ← emb_smul]
      funext k
      unfold emb
      by_cases w : k ∈ P
      · rw [if_pos w, if_pos w]; exact hc _ (List.idxOf_lt_length_of_mem w)
      · rw [if_neg w, if_neg w]
    rw [e, cost_smul]
    have e1 := hc q q1
    have e2 : zP n R P q q = 1 := if_pos rfl
    have h1 := yp q q1
    have cp : 0 < c := Classical.byContradiction fun z => by
      have := Rat.mul_nonneg (a := -c) (b := y (P.getD q 0)) (by grind) (Rat.le_of_lt h1)
      grind
    have := Rat.mul_pos cp (show 0 < -((sysOf m n R).cost y) by have := s.c; grind)
    grind
  | q :: q' :: l =>
    have hq : q ∈ frees P.length (stp n P.length (tM R P fun _ => 0)).2 := by rw [hF]; exact List.mem_cons_self
    have hq' : q' ∈ frees P.length (stp n P.length (tM R P fun _ => 0)).2 := by rw [hF]; exact List.mem_cons_of_mem _ List.mem_cons_self
    obtain ⟨a1, a2⟩ := frees_mem.mp hq'
    have := at1 q hq q' a1
    have nd : (frees P.length (stp n P.length (tM R P fun _ => 0)).2).Nodup := (List.nodup_range).filter _
    rw [hF, List.nodup_cons] at nd
    have ne : q' ≠ q := fun z => nd.1 (z ▸ List.mem_cons_self)
    have z0 : zP n R P q q' = 0 := by
      show zR _ _ q q' = 0
      unfold zR
      rw [if_neg ne, if_neg a2]
    rw [z0] at this
    exact absurd this (by decide)
end Lp

/-! Linear inequalities over the rationals, part 8: dimensions. -/
namespace Lp
open Dl
theorem qd_comm (a b : V) : ∀ n, qd a b n = qd b a n
  | 0 => rfl
  | n + 1 => by unfold qd; rw [qd_comm a b n]; grind
/-- more vectors than places are dependent -/
theorem dep (M : Nat → V) {a b : Nat} (h : b < a) : ∃ l : V, (∃ i, i < a ∧ l i ≠ 0) ∧ ∀ j, j < b → qd l (fun i => M i j) a = 0 := by
  have hc : ∀ j, ∃ (D : Int) (Y : Nat → Int), 0 < D ∧ ∀ i, i < a → (Y i : Rat) = (D : Rat) * M i j := fun j => common_den (fun i => M i j) a
  obtain ⟨D, T, hDT⟩ : ∃ (D : Nat → Int) (T : Nat → Nat → Int), ∀ j, 0 < D j ∧ ∀ i, i < a → (T j i : Rat) = (D j : Rat) * M i j :=
    ⟨fun j => Classical.choose (hc j), fun j => Classical.choose (Classical.choose_spec (hc j)), fun j => Classical.choose_spec (Classical.choose_spec (hc j))⟩
  have e : Ech (a + 1) b a T (stp b a T).1 (stp b a T).2 := ech_of b a T
  have lt : (stp b a T).2.length < a := Nat.lt_of_le_of_lt e.len h
  obtain ⟨q, q1, q2⟩ := inc_gap e.inc e.lt lt
  refine ⟨zR (stp b a T).1 (stp b a T).2 q, ⟨q, q1, by show (if q = q then (1 : Rat) else _) ≠ 0; rw [if_pos rfl]; decide⟩, fun j hj => ?_⟩
  have hk := zR_ker e q1 q2 j hj
  obtain ⟨hD, hY⟩ := hDT j
  generalize zR (stp b a T).1 (stp b a T).2 q = z at *
  have eq : qd (rq (T j)) z a = (D j : Rat) * qd (fun i => M i j) z a := by
    have := qd_lin (D j : Rat) (fun i => M i j) (fun _ => 0) z a
    rw [qd_zero (a := fun _ => 0) fun _ _ => rfl] at this
    rw [qd_congr (a := rq (T j)) (b := fun i => (D j : Rat) * M i j + (fun _ => (0 : Rat)) i) (x := z) (y := z) (fun i hi => (hY i hi).trans (by dsimp only; grind)) fun _ _ => rfl, this]
    grind
  rw [eq] at hk
  have dn := ne_q (Int.ne_of_gt hD)
  rw [qd_comm]
  generalize qd (fun i => M i j) z a = u at *
  generalize (D j : Rat) = d at *
  grind
def lc (l : V) (v : Nat → V) (f : Nat) : V := fun j => qd l (fun i => v i j) f
theorem lc_qd (l : V) (v : Nat → V) (f : Nat) (x : V) (n : Nat) : qd (lc l v f) x n = qd l (fun i => qd (v i) x n) f := at_turn ⟨f, n, v, fun _ => 0⟩ l x f n
section
variable {m c : Nat} {T R : Mat} {ps : List Nat}
/-- what comes to nought and is nought at the free places is nought -/
theorem ker_free0 (e : Ech (c + 1) m c T R ps) {w : V} (h : ker m c T w) (h0 : ∀ q, q < c → q ∉ ps → w q = 0) : ∀ j, j < c → w j = 0 := fun j hj => by
  by_cases hp : j ∈ ps
  · obtain ⟨i, hi⟩ := List.getElem?_of_mem hp
    have il := (List.getElem?_eq_some_iff.mp hi).1
    have im : i < m := by have := e.len; omega
    obtain ⟨v1, v2⟩ := e.piv i j hi
    have := (knq_iff e.kn _).mpr (ker_kn.mp h) i im
    rw [qd_ext, qd_one (p := j) hj fun k hk hne => ?_] at this
    · have this : (R i j : Rat) * w j + rq (R i) c * 0 = 0 := this
      have := ne_q v1
      grind
    · by_cases hk2 : k ∈ ps
      · obtain ⟨i', hi'⟩ := List.getElem?_of_mem hk2
        have : i' ≠ i := fun z => by subst z; rw [hi] at hi'; exact hne (Option.some.inj hi').symm
        show (R i k : Rat) * _ = 0
        rw [(e.piv i' k hi').2 i im (Ne.symm this)]
        show (0 : Rat) * _ = 0
        grind
      · rw [h0 k hk hk2]; grind
  · exact h0 j hj hp
theorem getD_inj {l : List Nat} (hn : l.Nodup) {i j : Nat} (hi : i < l.length) (hj : j < l.length) (h : l.getD i 0 = l.getD j 0) : i = j := by
  have := idx_getD hn hi
  rw [h, idx_getD hn hj] at this
  exact this.symm
/-- a smaller kernel leaves no more places free -/
theorem free_le {m' : Nat} {T' R' : Mat} {ps' : List Nat} (e : Ech (c + 1) m c T R ps) (e' : Ech (c + 1) m' c T' R' ps') (h : ∀ z, ker m c T z → ker m' c T' z) : (frees c ps).length ≤ (frees c ps').length := Classical.byContradiction fun hlt => by
  obtain ⟨l, ⟨i0, i1, i2⟩, hl⟩ := dep (fun i j => zR R ps ((frees c ps).getD i 0) ((frees c ps').getD j 0)) (Nat.lt_of_not_le hlt)
  have nd : (frees c ps).Nodup := (List.nodup_range).filter _
  have kw : ker m c T (lc l (fun i => zR R ps ((frees c ps).getD i 0)) (frees c ps).length) := fun k hk => by
    rw [qd_comm, lc_qd]
    refine qd_all0 fun i hi => ?_
    obtain ⟨a1, a2⟩ := frees_mem.mp (getD_mem hi)
    have := zR_ker e a1 a2 k hk
    rw [qd_comm] at this
    rw [this]
    grind
  have z := ker_free0 e' (h _ kw) (fun q hq hn => by
    have hm : q ∈ frees c ps' := frees_mem.mpr ⟨hq, hn⟩
    have := hl ((frees c ps').idxOf q) (List.idxOf_lt_length_of_mem hm)
    rw [getD_idx hm] at this
    exact this) ((frees c ps).getD i0 0) (frees_mem.mp (getD_mem i1)).1
  unfold lc at z
  rw [qd_one (p := i0) i1 fun i hi hne => ?_] at z
  · have e1 : zR R ps ((frees c ps).getD i0 0) ((frees c ps).getD i0 0) = 1 := if_pos rfl
    have z : l i0 * zR R ps ((frees c ps).getD i0 0) ((frees c ps).getD i0 0) = 0 := z
    rw [e1] at z
    exact i2 (by grind)
  · have ne : (frees c ps).getD i0 0 ≠ (frees c ps).getD i 0 := fun w => hne (getD_inj nd i1 hi w).symm
    show l i * zR R ps ((frees c ps).getD i 0) ((frees c ps).getD i0 0) = 0
    unfold zR
    rw [if_neg ne, if_neg (frees_mem.mp (getD_mem i1)).2]
    grind
theorem rank_eq {m' : Nat} {T' R' : Mat} {ps' : List Nat} (e : Ech (c + 1) m c T R ps) (e' : Ech (c + 1) m' c T' R' ps') (h : ∀ z, ker m c T z ↔ ker m' c T' z) : ps.length = ps'.length := by
  have h1 := free_le e e' fun z => (h z).mp
  have h2 := free_le e' e fun z => (h z).mpr
  have a := frees_len e.inc e.lt
  have b := frees_len e'.inc e'.lt
  omega
/-- independent rows are as many as steps -/
theorem rows_indep (e : Ech (c + 1) m c T R ps) (h : ∀ l : V, (∀ j, j < c → qd l (fun k => (T k j : Rat)) m = 0) → ∀ k, k < m → l k = 0) : ps.length = m := Classical.byContradiction fun hne => by
  have lt : ps.length < m := Nat.lt_of_le_of_ne e.len hne
  obtain ⟨l, ⟨i0, i1, i2⟩, hl⟩ := dep (fun k j => (T k (ps.getD j 0) : Rat)) lt
  refine i2 (h l (fun j hj => ?_) i0 i1)
  by_cases hp : j ∈ ps
  · have := hl (ps.idxOf j) (List.idxOf_lt_length_of_mem hp)
    rw [getD_idx hp] at this
    exact this
  · -- a free place: by what comes to nought
    have hz := zR_ker e hj hp
    have s1 : qd (lc l (fun k => rq (T k)) m) (zR R ps j) c = 0 := by
      rw [lc_qd]
      exact qd_all0 fun k hk => by rw [hz k hk]; grind
    rw [qd_one (p := j) hj fun i hi hne => ?_] at s1
    · have e1 : zR R ps j j = 1 := if_pos rfl
      rw [e1] at s1
      show lc l (fun k => rq (T k)) m j = 0
      grind
    · by_cases hi2 : i ∈ ps
      · have := hl (ps.idxOf i) (List.idxOf_lt_length_of_mem hi2)
        rw [getD_idx hi2] at this
        show qd l (fun k => (T k i : Rat)) m * _ = 0
        rw [this]; grind
      · unfold zR
        rw [if_neg hne, if_neg hi2]; grind
end
end Lp

/-! Linear inequalities over the rationals, part 9: corners by picked rows. -/
namespace Lp
open Dl
/-- picked rows -/
def pR (R : Mat) (P : List Nat) : Mat := fun i => R (P.getD i 0)
theorem pR_ker {n : Nat} {R : Mat} {P : List Nat} {d : V} : ker P.length n (pR R P) d ↔ ∀ k ∈ P, qd (rq (R k)) d n = 0 := by
  unfold ker pR
  constructor
  · intro h k hk
    have := h (P.idxOf k) (List.idxOf_lt_length_of_mem hk)
    rw [getD_idx hk] at this
    exact this
  · intro h i hi
    exact h _ (getD_mem hi)
structure Kp (m n : Nat) (R : Mat) (x : V) (P : List Nat) : Prop where
  inc : P.Pairwise (· < ·)
  lt : ∀ k ∈ P, k < m
  tight : ∀ k ∈ P, qd (rq (R k)) x n = (R k n : Rat)
  ker : ∀ d : V, (∀ k ∈ P, qd (rq (R k)) d n = 0) → ∀ k, k < m → qd (rq (R k)) d n = 0
theorem kp_min {m n : Nat} {R : Mat} {x : V} : ∀ (N : Nat) (P : List Nat), P.length ≤ N → Kp m n R x P → ∃ P', Kp m n R x P' ∧ ∀ l : V, (∀ j, j < n → qd l (fun i => (pR R P' i j : Rat)) P'.length = 0) → ∀ i, i < P'.length → l i = 0 := by
  intro N
  induction N with
  | zero =>
    intro P hl hp
    exact ⟨P, hp, fun l _ i hi => absurd hi (by omega)⟩
  | succ N ih =>
    intro P hl hp
    by_cases h : ∀ l : V, (∀ j, j < n → qd l (fun i => (pR R P i j : Rat)) P.length = 0) → ∀ i, i < P.length → l i = 0
    · exact ⟨P, hp, h⟩
    obtain ⟨l, h⟩ := Classical.not_forall.mp h
    obtain ⟨h1, h⟩ := Classical.not_imp.mp h
    obtain ⟨i0, h⟩ := Classical.not_forall.mp h
    obtain ⟨h2, h3⟩ := Classical.not_imp.mp h
    have nd := inc_nodup hp.inc
    have mem : ∀ {k : Nat}, k ∈ P.filter (fun k => decide (k ≠ P.getD i0 0)) ↔ k ∈ P ∧ k ≠ P.getD i0 0 := fun {k} => by rw [List.mem_filter, decide_eq_true_iff]
    refine ih (P.filter fun k => decide (k ≠ P.getD i0 0)) ?_ ⟨hp.inc.filter _, fun k hk => hp.lt k (mem.mp hk).1, fun k hk => hp.tight k (mem.mp hk).1, fun d hd => hp.ker d fun k hk => ?_⟩
    · have : (P.filter fun k => decide (k ≠ P.getD i0 0)).length < P.length := by
        refine Nat.lt_of_le_of_ne (List.length_filter_le _ _) fun e => ?_
        have := List.length_filter_eq_length_iff.mp e (P.getD i0 0) (getD_mem h2)
        rw [decide_eq_true_iff] at this
        exact this rfl
      omega
    · by_cases e : k = P.getD i0 0
      · subst e
        have s : qd (lc l (fun i => rq (pR R P i)) P.length) d n = 0 := qd_zero fun j hj => h1 j hj
        rw [lc_qd, qd_one (p := i0) h2 fun i hi hne => ?_] at s
        · have s : l i0 * qd (rq (R (P.getD i0 0))) d n = 0 := s
          grind
        · have : P.getD i 0 ≠ P.getD i0 0 := fun w => hne (getD_inj nd hi h2 w)
          have z := hd (P.getD i 0) (mem.mpr ⟨getD_mem hi, this⟩)
          show l i * qd (rq (R (P.getD i 0))) d n = 0
          rw [z]; grind
      · exact hd k (mem.mpr ⟨hk, e⟩)
/-- picked rows by which a corner is told -/
structure Corner (m n : Nat) (R : Mat) (P : List Nat) : Prop where
  inc : P.Pairwise (· < ·)
  lt : ∀ k ∈ P, k < m
  len : P.length = (stp m n R).2.length
  ok : badG P.length n (stp P.length n (pR R P)).1 (stp P.length n (pR R P)).2.length = false
  ful : (stp P.length n (pR R P)).2.length = (stp m n R).2.length
abbrev cP (n : Nat) (R : Mat) (P : List Nat) : V := xR (stp P.length n (pR R P)).1 n (stp P.length n (pR R P)).2
theorem corner_pick {m n : Nat} {R : Mat} {x : V} (hx : (sysOf m n R).feas x) (hf : (sysOf m n R).full x) :
    ∃ P, Corner m n R P ∧ (∀ k, k < m → qd (rq (R k)) (cP n R P) n = qd (rq (R k)) x n) ∧ (sysOf m n R).feas (cP n R P) := by
  have t0 : Kp m n R x ((List.range m).filter fun k => decide (qd (rq (R k)) x n = (R k n : Rat))) := by
    refine ⟨(range_inc m).filter _, fun k hk => List.mem_range.mp (List.mem_filter.mp hk).1, fun k hk => of_decide_eq_true (List.mem_filter.mp hk).2, fun d hd => hf d fun k hk ht => hd k (List.mem_filter.mpr ⟨List.mem_range.mpr hk, decide_eq_true ht⟩)⟩
  obtain ⟨P, kp, ind⟩ := kp_min _ _ (Nat.le_refl _) t0
  have e : Ech (n + 1) P.length n (pR R P) (stp P.length n (pR R P)).1 (stp P.length n (pR R P)).2 := ech_of _ _ _
  have e0 : Ech (n + 1) m n R (stp m n R).1 (stp m n R).2 := ech_of _ _ _
  have l1 := rows_indep e ind
  have l2 := rank_eq e e0 fun z => ⟨fun h k hk => kp.ker z (pR_ker.mp h) k hk, fun h => pR_ker.mpr fun k hk => h k (kp.lt k hk)⟩
  have sx : sol P.length n (pR R P) x := fun i hi => kp.tight _ (getD_mem hi)
  have ok := not_bad e sx
  have sc := xR_sol e ok
  have same : ∀ k, k < m → qd (rq (R k)) (cP n R P) n = qd (rq (R k)) x n := fun k hk => by
    have := kp.ker (fun j => cP n R P j + (-1) * x j) (fun k hk => by
      rw [qd_lin_r]
      have h1 := sc (P.idxOf k) (List.idxOf_lt_length_of_mem hk)
      have h2 := sx (P.idxOf k) (List.idxOf_lt_length_of_mem hk)
      unfold pR at h1 h2
      rw [getD_idx hk] at h1 h2
      have h1 : qd (rq (R k)) (cP n R P) n = (R k n : Rat) := h1
      grind) k hk
    rw [qd_lin_r] at this
    grind
  refine ⟨P, ⟨kp.inc, kp.lt, by omega, ok, l2⟩, same, fun k hk => ?_⟩
  have := hx k hk
  have h2 := same k hk
  show qd (rq (R k)) (cP n R P) n ≤ _
  rw [h2]
  exact this
/-- a row whose most is told is seen by no way that the room's rows don't see -/
theorem same_row {S : Sys} {c x z : V} {v : Rat} (top : ∀ x, S.feas x → qd c x S.n ≤ v) (hx : S.feas x) (h : ∀ k, k < S.m → qd (S.A k) z S.n = qd (S.A k) x S.n) : qd c z S.n = qd c x S.n := by
  have d0 : ∀ k, k < S.m → qd (S.A k) (fun j => z j + (-1) * x j) S.n = 0 := fun k hk => by rw [qd_lin_r, h k hk]; grind
  have any : ∀ t : Rat, qd c x S.n + t * qd c (fun j => z j + (-1) * x j) S.n ≤ v := fun t => by
    have := top (fun j => x j + t * (z j + (-1) * x j)) fun k hk => by
      have e := qd_lin_r t (S.A k) x (fun j => z j + (-1) * x j) S.n
      rw [e, d0 k hk]
      have := hx k hk
      grind
    have e := qd_lin_r t c x (fun j => z j + (-1) * x j) S.n
    rw [e] at this
    exact this
  have e : qd c (fun j => z j + (-1) * x j) S.n = 0 := Classical.byContradiction fun w => by
    generalize qd c (fun j => z j + (-1) * x j) S.n = u at *
    have := any ((v - qd c x S.n + 1) / u)
    have e1 : (v - qd c x S.n + 1) / u * u = v - qd c x S.n + 1 := by grind
    grind
  rw [qd_lin_r] at e
  grind
end Lp

/-! Linear inequalities, part 10: the program's numbers are the theory's. -/
namespace Lp
open Dl
/-! ### fractions -/
def qv (p : Int × Int) : Rat := (p.1 : Rat) / (p.2 : Rat)
def ptQ (ps : List (Int × Int)) : V := fun j => qv (ps.getD j (0, 1))
theorem pos_q {i : Int} (h : 0 < i) : (0 : Rat) < (i : Rat) := Rat.intCast_pos.mpr h
theorem frX_q {p : Int × Int} (h : p.2 ≠ 0) : qv (frX p) = qv p := by
  obtain ⟨h1, h2, _⟩ := frX_ok h
  unfold qv
  have a := ne_q h
  have b := ne_q (show (frX p).2 ≠ 0 by omega)
  have c : ((frX p).1 : Rat) * (p.2 : Rat) = (p.1 : Rat) * ((frX p).2 : Rat) := by rw [← Rat.intCast_mul, ← Rat.intCast_mul, h2]
  grind
def lsum : List Int → List (Int × Int) → Rat
  | r :: rs, p :: ps => (r : Rat) * qv p + lsum rs ps
  | _, _ => 0
theorem ws_q : ∀ (rs : List Int) (ps : List (Int × Int)) (T B : Int), 0 < B → (∀ p ∈ ps, 0 < p.2) → qv (wsF rs ps T B) = (T : Rat) / (B : Rat) + lsum rs ps
  | [], ps, T, B, hB, h => by unfold wsF lsum qv; grind
  | r :: rs, [], T, B, hB, h => by unfold wsF lsum qv; grind
  | r :: rs, p :: ps, T, B, hB, h => by
    have p2 := h p List.mem_cons_self
    unfold wsF lsum
    rw [ws_q rs ps _ _ (Int.mul_pos hB p2) fun p hp => h p (List.mem_cons_of_mem _ hp), Rat.intCast_add, Rat.intCast_mul, Rat.intCast_mul, Rat.intCast_mul, Rat.intCast_mul]
    unfold qv
    have a := ne_q (show B ≠ 0 by omega)
    have b := ne_q (show p.2 ≠ 0 by omega)
    grind
theorem qd_head (a x : V) : ∀ n, qd a x (n + 1) = a 0 * x 0 + qd (fun j => a (j + 1)) (fun j => x (j + 1)) n
  | 0 => by unfold qd qd; grind
  | n + 1 => by
    show qd a x (n + 1) + a (n + 1) * x (n + 1) = _ + (qd (fun j => a (j + 1)) (fun j => x (j + 1)) n + a (n + 1) * x (n + 1))
    rw [qd_head a x n]
    grind
theorem lsum_tab : ∀ (ps : List (Int × Int)) (n : Nat) (r : Nat → Int), ps.length ≤ n → lsum (tabI n r) ps = qd (rq r) (ptQ ps) ps.length
  | [], n, r, _ => by
    cases n with
    | zero => rfl
    | succ n => unfold tabI; rw [List.range_succ_eq_map]; rfl
  | p :: ps, 0, r, h => absurd h (by rw [List.length_cons]; omega)
  | p :: ps, n + 1, r, h => by
    have e : tabI (n + 1) r = r 0 :: tabI n (fun j => r (j + 1)) := by
      unfold tabI
      rw [List.range_succ_eq_map, List.map_cons, List.map_map]
      rfl
    rw [e]
    show (r 0 : Rat) * qv p + lsum (tabI n fun j => r (j + 1)) ps = _
    rw [lsum_tab ps n _ (by rw [List.length_cons] at h; omega), List.length_cons, qd_head]
    rfl
theorem zero_div1 : ((0 : Int) : Rat) / ((1 : Int) : Rat) = 0 := by
  have : ((0 : Int) : Rat) = 0 := rfl
  rw [this]
  grind
theorem along_q {ps : List (Int × Int)} {n k : Nat} {r : Nat → Int} (hl : ps.length = n) (hk : n ≤ k) (h : ∀ p ∈ ps, 0 < p.2) : qv (wsF (tabI k r) ps 0 1) = qd (rq r) (ptQ ps) n := by
  rw [ws_q _ _ _ _ (by decide) h, lsum_tab ps k r (by omega), hl]
  have : ((0 : Int) : Rat) / ((1 : Int) : Rat) = 0 := zero_div1
  grind
theorem le_q {a : Int} {p : Int × Int} (h : 0 < p.2) : p.1 ≤ a * p.2 ↔ qv p ≤ (a : Rat) := by
  unfold qv
  have h' := pos_q h
  have n' := ne_q (show p.2 ≠ 0 by omega)
  rw [← Rat.intCast_le_intCast, Rat.intCast_mul]
  generalize (p.1 : Rat) = x at *
  generalize (p.2 : Rat) = y at *
  generalize (a : Rat) = z at *
  have e : x = x / y * y := by grind
  constructor
  · intro w
    exact Rat.le_of_mul_le_mul_right (by rw [← e]; exact w) h'
  · intro w
    have := Rat.mul_le_mul_of_nonneg_right w (Rat.le_of_lt h')
    rw [← e] at this
    exact this
theorem lies_q {ps : List (Int × Int)} {m n : Nat} {R : Mat} (hl : ps.length = n) (h : ∀ p ∈ ps, 0 < p.2) : liesB m n R ps = true ↔ (sysOf m n R).feas (ptQ ps) := by
  unfold liesB
  rw [List.all_eq_true]
  have key : ∀ k, hld (tabI n (R k)) (R k n) ps = true ↔ qd (rq (R k)) (ptQ ps) n ≤ (R k n : Rat) := fun k => by
    unfold hld
    rw [decide_eq_true_iff, le_q (wsF_pos _ _ _ _ (by decide) h), along_q hl (Nat.le_refl n) h]
  constructor
  · intro z k hk
    exact (key k).mp (z _ (List.mem_map.mpr ⟨k, List.mem_range.mpr hk, rfl⟩))
  · rintro z q hq
    obtain ⟨k, hk, rfl⟩ := List.mem_map.mp hq
    exact (key k).mpr (z k (List.mem_range.mp hk))
/-! ### numbers told by solution -/
theorem xG_q (R : Mat) (c : Nat) (ps : List Nat) (q : Nat) : qv (xG R c ps q) = xR R c ps q := by
  unfold xG xR
  split
  · rfl
  · unfold qv; exact zero_div1
theorem xG_ne {m c : Nat} {T R : Mat} {ps : List Nat} (e : Ech (c + 1) m c T R ps) (q : Nat) : (xG R c ps q).2 ≠ 0 := by
  unfold xG
  split
  · rename_i h
    obtain ⟨i, hi⟩ := List.getElem?_of_mem h
    rw [idx_of (inc_nodup e.inc) hi]
    exact (e.piv i q hi).1
  · decide
theorem xs_q {m c : Nat} {T R : Mat} {ps : List Nat} (e : Ech (c + 1) m c T R ps) {j : Nat} (hj : j < c) : ptQ (((List.range c).map (xG R c ps)).map frX) j = xR R c ps j := by
  unfold ptQ
  rw [List.map_map, List.getD_eq_getElem?_getD, rng_get hj]
  show qv (frX (xG R c ps j)) = _
  rw [frX_q (xG_ne e j), xG_q]
/-! ### made whole -/
theorem wN_q {xs : List (Int × Int)} {P : List Nat} {o : Int} (hd : ∀ x ∈ xs, 0 < x.2 ∧ x.2 ∣ o) (k : Nat) : (wN xs P o k : Rat) = (o : Rat) * emb P (ptQ xs) k := by
  unfold wN emb
  split
  · unfold ptQ
    rw [List.getD_eq_getElem?_getD]
    cases hx : xs[P.idxOf k]? with
    | none =>
      show (((0 : Int) * o.fdiv 1 : Int) : Rat) = (o : Rat) * qv (0, 1)
      rw [Int.zero_mul]
      have : qv (0, 1) = 0 := by unfold qv; exact zero_div1
      rw [this]
      have : ((0 : Int) : Rat) = 0 := rfl
      grind
    | some x =>
      obtain ⟨x1, c, hc⟩ := hd x (List.mem_of_getElem? hx)
      show ((x.1 * o.fdiv x.2 : Int) : Rat) = (o : Rat) * qv x
      rw [hc, Int.mul_fdiv_cancel_left _ (show x.2 ≠ 0 by omega), Rat.intCast_mul, Rat.intCast_mul]
      unfold qv
      have := ne_q (show x.2 ≠ 0 by omega)
      grind
  · have : ((0 : Int) : Rat) = 0 := rfl
    grind
end Lp

/-! Linear inequalities, part 11: shares and rings as the program tells them. -/
namespace Lp
open Dl
theorem nn_q {p : Int × Int} (h : 0 < p.2) : 0 ≤ p.1 ↔ 0 ≤ qv p := by
  unfold qv
  have h' := pos_q h
  have n' := ne_q (show p.2 ≠ 0 by omega)
  rw [← Rat.intCast_nonneg]
  generalize (p.1 : Rat) = x at *
  generalize (p.2 : Rat) = y at *
  have e : x = x / y * y := by grind
  constructor
  · intro w
    exact Rat.le_of_mul_le_mul_right (by rw [← e]; grind) h'
  · intro w
    have := Rat.mul_nonneg w (Rat.le_of_lt h')
    rw [← e] at this
    exact this
theorem ps_q {p : Int × Int} (h : 0 < p.2) : 0 < p.1 ↔ 0 < qv p := by
  have a := nn_q (p := (-p.1, p.2)) h
  have e : qv (-p.1, p.2) = - qv p := by
    unfold qv
    rw [Rat.intCast_neg]
    have n' := ne_q (show p.2 ≠ 0 by omega)
    grind
  rw [e] at a
  have a : 0 ≤ -p.1 ↔ 0 ≤ -qv p := a
  constructor
  · intro w
    have : ¬ 0 ≤ -p.1 := by omega
    rw [a] at this
    grind
  · intro w
    have : ¬ 0 ≤ -qv p := by grind
    rw [← a] at this
    omega
theorem lt_q {p q : Int × Int} (h : 0 < p.2) (g : 0 < q.2) : p.1 * q.2 < q.1 * p.2 ↔ qv p < qv q := by
  have a := ps_q (p := (q.1 * p.2 - p.1 * q.2, p.2 * q.2)) (Int.mul_pos h g)
  have e : qv (q.1 * p.2 - p.1 * q.2, p.2 * q.2) = qv q - qv p := by
    unfold qv
    rw [Rat.intCast_sub, Rat.intCast_mul, Rat.intCast_mul, Rat.intCast_mul]
    have n1 := ne_q (show p.2 ≠ 0 by omega)
    have n2 := ne_q (show q.2 ≠ 0 by omega)
    grind
  rw [e] at a
  have a : 0 < q.1 * p.2 - p.1 * q.2 ↔ 0 < qv q - qv p := a
  constructor
  · intro w
    have := a.mp (by omega)
    grind
  · intro w
    have := a.mpr (by grind)
    omega
theorem emb_congr {P : List Nat} {y z : V} (h : ∀ j, j < P.length → y j = z j) : emb P y = emb P z := funext fun k => by
  unfold emb
  split
  · exact h _ (List.idxOf_lt_length_of_mem (by assumption))
  · rfl
theorem wO_dvd {xs : List (Int × Int)} (h : okW xs) : 0 < wO xs 1 ∧ ∀ x ∈ xs, 0 < x.2 ∧ x.2 ∣ wO xs 1 := by
  obtain ⟨w1, w2, w3, w4⟩ := wO_ok xs 1 1 h (by decide) (bnd_one (by decide))
  exact ⟨w1, fun x hx => ⟨(h x hx).1, w3 x hx⟩⟩
/-! ### shares -/
theorem sh_link {m n b : Nat} {R : Mat} {P : List Nat} {t : Nat → Int} (ok : okPk m n b R P) (ht : ∀ j, bnd b (t j)) :
    (∀ s, shN n R P t = some s → Good n R P t ∧ 0 < s.1 ∧ ∀ k, (s.2 k : Rat) = (s.1 : Rat) * emb P (xP n R P t) k) ∧ (Good n R P t → ∃ s, shN n R P t = some s) := by
  have hW := xG_okW (m := n) (c := P.length) (T := tM R P t) (tM'_bnd ok.R ht) (Nat.le_trans (eb_mono ok.n3) ok.e3)
  have he := ech_of n P.length (tM R P t)
  have hx := fun j (hj : j < P.length) => xs_q he hj
  have hn : ∀ j, j < P.length → (0 ≤ xP n R P t j ↔ 0 ≤ (frX (xG (stp n P.length (tM R P t)).1 P.length (stp n P.length (tM R P t)).2 j)).1) := fun j hj => by
    have h2 := xG_ne he j
    rw [nn_q (frX_ok h2).1, frX_q h2, xG_q]
  unfold shN solN
  rw [show tM' R P t = tM R P t from rfl]
  cases hb : badG n P.length (stp n P.length (tM R P t)).1 (stp n P.length (tM R P t)).2.length with
  | true =>
    refine ⟨fun s h => ?_, fun g => ?_⟩
    · cases h
    · have := g.ok
      rw [hb] at this
      cases this
  | false =>
    rw [if_neg (by decide)]
    dsimp only
    by_cases hr : (stp n P.length (tM R P t)).2.length < P.length
    · rw [if_pos hr]
      refine ⟨(fun s h => nomatch h), fun g => ?_⟩
      have := g.ful
      omega
    rw [if_neg hr]
    have le := inc_len he.inc he.lt
    by_cases ha : ((List.range P.length).map (xG (redG (P.length + 1) n (tM R P t) P.length).1 P.length (redG (P.length + 1) n (tM R P t) P.length).2)).any (fun x => decide ((frX x).1 < 0)) = true
    · rw [if_pos ha]
      refine ⟨(fun s h => nomatch h), fun g => ?_⟩
      obtain ⟨x, hx, h⟩ := List.any_eq_true.mp ha
      obtain ⟨j, hj, rfl⟩ := List.mem_map.mp hx
      have hj := List.mem_range.mp hj
      have := (hn j hj).mp (g.nn j hj)
      have h := of_decide_eq_true h
      exact absurd this (Int.not_le.mpr h)
    · rw [if_neg ha]
      have g : Good n R P t := ⟨hb, Nat.le_antisymm le (Nat.not_lt.mp hr), fun j hj => (hn j hj).mpr (Int.not_lt.mp fun z => ha (List.any_eq_true.mpr ⟨_, List.mem_map.mpr ⟨j, List.mem_range.mpr hj, rfl⟩, decide_eq_true z⟩))⟩
      refine ⟨fun s h => ?_, fun _ => ⟨_, rfl⟩⟩
      cases h
      obtain ⟨w1, w2⟩ := wO_dvd hW
      refine ⟨g, w1, fun k => ?_⟩
      rw [wN_q w2, emb_congr hx]
/-- the shares over their times -/
def yS (s : Int × (Nat → Int)) : V := fun k => (s.2 k : Rat) / (s.1 : Rat)
theorem yS_of {s : Int × (Nat → Int)} {y : V} (h : 0 < s.1) (e : ∀ k, (s.2 k : Rat) = (s.1 : Rat) * y k) : yS s = y := funext fun k => by
  unfold yS
  rw [e k]
  have := ne_q (show s.1 ≠ 0 by omega)
  grind
theorem dot_comm (r y : Nat → Int) : ∀ n, dot r y n = dot y r n
  | 0 => rfl
  | n + 1 => by unfold dot; rw [dot_comm r y n, Int.mul_comm]
theorem yS_qd {s : Int × (Nat → Int)} (h : 0 < s.1) (r : Nat → Int) (m : Nat) : (s.1 : Rat) * qd (yS s) (rq r) m = ((dot r s.2 m : Int) : Rat) := by
  rw [← qd_int, qd_comm (yS s), ← qd_smul_r]
  refine qd_congr (fun _ _ => rfl) fun k _ => ?_
  unfold yS rq
  have := ne_q (show s.1 ≠ 0 by omega)
  grind
theorem yS_at {s : Int × (Nat → Int)} (h : 0 < s.1) (m n : Nat) (R : Mat) (j : Nat) : (s.1 : Rat) * (sysOf m n R).at (yS s) j = ((dot (fun i => R i j) s.2 m : Int) : Rat) := yS_qd h (fun i => R i j) m
theorem yS_cost {s : Int × (Nat → Int)} (h : 0 < s.1) (m n : Nat) (R : Mat) : (sysOf m n R).cost (yS s) = qv (lsV m n R s) := by
  have e := yS_qd h (fun i => R i n) m
  unfold lsV
  rw [frX_q (show s.1 ≠ 0 by omega)]
  unfold qv
  dsimp only
  rw [← e]
  have := ne_q (show s.1 ≠ 0 by omega)
  show qd (yS s) (rq fun i => R i n) m = _
  grind
/-- the shares that shares_by tells -/
structure ShOk (m n : Nat) (R : Mat) (t : Nat → Int) (s : Int × (Nat → Int)) : Prop where
  pos : 0 < s.1
  nn : ∀ k, 0 ≤ s.2 k
  eq : ∀ j, j < n → dot (fun i => R i j) s.2 m = s.1 * t j
  for_ : (sysOf m n R).For (rq t) (yS s)
theorem sh_ok {m n b : Nat} {R : Mat} {P : List Nat} {t : Nat → Int} (ok : okPk m n b R P) (ht : ∀ j, bnd b (t j)) {s : Int × (Nat → Int)} (h : shN n R P t = some s) : ShOk m n R t s := by
  obtain ⟨g, p, e⟩ := (sh_link ok ht).1 s h
  have f := good_for (m := m) ok.nd ok.lt g
  have ey := yS_of p e
  have f' : (sysOf m n R).For (rq t) (yS s) := by rw [ey]; exact f
  refine ⟨p, fun k => ?_, fun j hj => ?_, f'⟩
  · have h0 := f.nn k
    have := Rat.mul_nonneg (Rat.le_of_lt (pos_q p)) h0
    rw [← e k] at this
    exact Rat.intCast_nonneg.mp this
  · have := yS_at p m n R j
    rw [f'.eq j hj] at this
    have z : ((s.1 * t j : Int) : Rat) = ((dot (fun i => R i j) s.2 m : Int) : Rat) := by rw [← this, Rat.intCast_mul]; rfl
    exact (Rat.intCast_inj.mp z).symm
theorem lsF_spec {m n : Nat} {R : Mat} {t : Nat → Int} : ∀ (Ps : List (List Nat)) (best : Option (Int × (Nat → Int))), (∀ P ∈ Ps, ∀ s, shN n R P t = some s → 0 < s.1) → (∀ s, best = some s → 0 < s.1) →
    (lsF m n R t best Ps = none → best = none ∧ ∀ P ∈ Ps, shN n R P t = none) ∧
    ∀ s, lsF m n R t best Ps = some s → (best = some s ∨ ∃ P ∈ Ps, shN n R P t = some s) ∧ (∀ c, best = some c → qv (lsV m n R s) ≤ qv (lsV m n R c)) ∧ ∀ P ∈ Ps, ∀ c, shN n R P t = some c → qv (lsV m n R s) ≤ qv (lsV m n R c)
  | [], best, _, _ => ⟨fun h => ⟨h, fun P hP => nomatch hP⟩, fun s h => ⟨.inl h, (fun c e => by have h : best = some s := h; rw [h] at e; cases e; exact Rat.le_refl), fun P hP => nomatch hP⟩⟩
  | P :: Ps, best, hp, hb => by
    have hp' := fun P h => hp P (List.mem_cons_of_mem _ h)
    have hP := hp P List.mem_cons_self
    have vp : ∀ s : Int × (Nat → Int), 0 < s.1 → 0 < (lsV m n R s).2 := fun s h => (frX_ok (show s.1 ≠ 0 by omega)).1
    unfold lsF
    cases hs : shN n R P t with
    | none =>
      obtain ⟨h1, h2⟩ := lsF_spec Ps best hp' hb
      dsimp only
      refine ⟨fun h => ⟨(h1 h).1, fun Q hQ => ?_⟩, fun s h => ?_⟩
      · rcases List.mem_cons.mp hQ with rfl | hQ
        · exact hs
        · exact (h1 h).2 Q hQ
      · obtain ⟨a, b, c⟩ := h2 s h
        refine ⟨a.imp id fun ⟨Q, hQ, e⟩ => ⟨Q, List.mem_cons_of_mem _ hQ, e⟩, b, fun Q hQ d e => ?_⟩
        rcases List.mem_cons.mp hQ with rfl | hQ
        · rw [hs] at e; cases e
        · exact c Q hQ d e
    | some s0 =>
      have p0 := hP s0 hs
      -- the better one of two
      have core : ∀ (c0 : Int × (Nat → Int)), 0 < c0.1 → (best = some c0 ∨ c0 = s0) → qv (lsV m n R c0) ≤ qv (lsV m n R s0) → (∀ c, best = some c → qv (lsV m n R c0) ≤ qv (lsV m n R c)) →
          (lsF m n R t (some c0) Ps = none → best = none ∧ ∀ Q ∈ P :: Ps, shN n R Q t = none) ∧
          ∀ s, lsF m n R t (some c0) Ps = some s → (best = some s ∨ ∃ Q ∈ P :: Ps, shN n R Q t = some s) ∧ (∀ c, best = some c → qv (lsV m n R s) ≤ qv (lsV m n R c)) ∧ ∀ Q ∈ P :: Ps, ∀ c, shN n R Q t = some c → qv (lsV m n R s) ≤ qv (lsV m n R c) := fun c0 cp ho hl hm => by
        obtain ⟨h1, h2⟩ := lsF_spec Ps (some c0) hp' (fun s e => by cases e; exact cp)
        refine ⟨(fun h => nomatch (h1 h).1), fun s h => ?_⟩
        obtain ⟨a, b, c⟩ := h2 s h
        have sc := b c0 rfl
        refine ⟨?_, fun d e => Rat.le_trans sc (hm d e), fun Q hQ d e => ?_⟩
        · rcases a with a | ⟨Q, hQ, e⟩
          · cases a
            rcases ho with ho | rfl
            · exact .inl ho
            · exact .inr ⟨P, List.mem_cons_self, hs⟩
          · exact .inr ⟨Q, List.mem_cons_of_mem _ hQ, e⟩
        · rcases List.mem_cons.mp hQ with rfl | hQ
          · rw [hs] at e; cases e; exact Rat.le_trans sc hl
          · exact c Q hQ d e
      cases best with
      | none => exact core s0 p0 (.inr rfl) Rat.le_refl fun c e => nomatch e
      | some c =>
        have cp := hb c rfl
        dsimp only
        have k := lt_q (vp s0 p0) (vp c cp)
        by_cases hz : (lsV m n R s0).1 * (lsV m n R c).2 < (lsV m n R c).1 * (lsV m n R s0).2
        · rw [if_pos hz]
          exact core s0 p0 (.inr rfl) Rat.le_refl fun d e => by cases e; exact Rat.le_of_lt (k.mp hz)
        · rw [if_neg hz]
          rw [k] at hz
          exact core c cp (.inl rfl) (Rat.not_lt.mp hz) fun d e => by cases e; exact Rat.le_refl
end Lp

/-! Linear inequalities, part 12: rings and corners as the program tells them. -/
namespace Lp
open Dl
/-! ### rings -/
theorem zs_q {n b : Nat} {R : Mat} {P : List Nat} (h0 : okW ((List.range P.length).map fun j => frX (zG (redG (P.length + 1) n (tM R P fun _ => 0) P.length).1 (redG (P.length + 1) n (tM R P fun _ => 0) P.length).2 b j)))
    (hl : frees P.length (stp n P.length (tM R P fun _ => 0)).2 = [b]) {j : Nat} (hj : j < P.length) :
    (zG (stp n P.length (tM R P fun _ => 0)).1 (stp n P.length (tM R P fun _ => 0)).2 b j).2 ≠ 0 ∧ qv (zG (stp n P.length (tM R P fun _ => 0)).1 (stp n P.length (tM R P fun _ => 0)).2 b j) = zP n R P b j := by
  have he := ech_of n P.length (tM R P fun _ => 0)
  rw [show zP n R P b j = zR (stp n P.length (tM R P fun _ => 0)).1 (stp n P.length (tM R P fun _ => 0)).2 b j from rfl]
  generalize (stp n P.length (tM R P fun _ => 0)).1 = L at *
  generalize (stp n P.length (tM R P fun _ => 0)).2 = ps at *
  unfold zR zG
  by_cases h : j ∈ ps
  · have hne : j ≠ b := fun z => by
      have : b ∈ frees P.length ps := by rw [hl]; exact List.mem_cons_self
      exact (frees_mem.mp this).2 (z ▸ h)
    rw [if_pos h, if_neg hne, if_pos h]
    refine ⟨?_, ?_⟩
    · obtain ⟨i, hi⟩ := List.getElem?_of_mem h
      rw [idx_of (inc_nodup he.inc) hi]
      exact (he.piv i j hi).1
    · unfold qv
      rw [Int.zero_sub, Rat.intCast_neg]
  · have : j ∈ frees P.length ps := frees_mem.mpr ⟨hj, h⟩
    rw [hl] at this
    have := List.mem_singleton.mp this
    rw [if_neg h, if_pos this]
    refine ⟨by decide, ?_⟩
    unfold qv
    have : ((1 : Int) : Rat) = 1 := rfl
    rw [this]
    grind
theorem rg_link {m n b : Nat} {R : Mat} {P : List Nat} (ok : okPk m n b R P) (p1 : 1 ≤ P.length) :
    (∀ N, rgN n R P = some N → ∃ q o, RingP n R P q ∧ 0 < o ∧ ∀ k, (N k : Rat) = ((o : Int) : Rat) * emb P (zP n R P q) k) ∧ ((∃ q, RingP n R P q) → ∃ N, rgN n R P = some N) := by
  have hW := fun q => zG_okW (n := n) (p := P.length) (T := tM R P fun _ => 0) (b := b) (tM'_bnd ok.R fun _ => bnd_zero) (Nat.le_trans (eb_mono ok.n3) ok.e3) q
  have he := ech_of n P.length (tM R P fun _ => 0)
  have hf := frees_len he.inc he.lt
  unfold rgN
  rw [show (tM' R P fun _ => 0) = tM R P fun _ => 0 from rfl]
  by_cases hr : (stp n P.length (tM R P fun _ => 0)).2.length + 1 ≠ P.length
  · rw [if_pos hr]
    refine ⟨(fun s h => nomatch h), fun ⟨q, g⟩ => absurd g.len hr⟩
  rw [if_neg hr]
  have hr := Decidable.not_not.mp hr
  obtain ⟨q, hq⟩ : ∃ q, frees P.length (stp n P.length (tM R P fun _ => 0)).2 = [q] := List.length_eq_one_iff.mp (Nat.add_left_cancel (hf.trans hr.symm))
  have eq : (freeN P.length (stp n P.length (tM R P fun _ => 0)).2).getD 0 0 = q := by
    show (frees P.length (stp n P.length (tM R P fun _ => 0)).2).getD 0 0 = q
    rw [hq]
    rfl
  rw [eq]
  have hW := hW q
  have hn : ∀ j, j < P.length → (0 < zP n R P q j ↔ 0 < (frX (zG (stp n P.length (tM R P fun _ => 0)).1 (stp n P.length (tM R P fun _ => 0)).2 q j)).1) := fun j hj => by
    obtain ⟨h2, h3⟩ := zs_q hW hq hj
    rw [ps_q (frX_ok h2).1, frX_q h2, h3]
  by_cases ha : ((List.range P.length).map fun j => frX (zG (stp n P.length (tM R P fun _ => 0)).1 (stp n P.length (tM R P fun _ => 0)).2 q j)).any (fun x => decide (x.1 ≤ 0)) = true
  · rw [if_pos ha]
    refine ⟨(fun s h => nomatch h), fun ⟨q', g⟩ => ?_⟩
    have e : q' = q := by
      have := g.free
      rw [hq] at this
      exact ((List.cons.inj this).1).symm
    subst e
    obtain ⟨x, hx, h⟩ := List.any_eq_true.mp ha
    obtain ⟨j, hj, rfl⟩ := List.mem_map.mp hx
    have hj := List.mem_range.mp hj
    exact absurd ((hn j hj).mp (g.pos j hj)) (Int.not_lt.mpr (of_decide_eq_true h))
  · rw [if_neg ha]
    have g : RingP n R P q := ⟨hr, hq, fun j hj => (hn j hj).mpr (Int.not_le.mp fun z => ha (List.any_eq_true.mpr ⟨_, List.mem_map.mpr ⟨j, List.mem_range.mpr hj, rfl⟩, decide_eq_true z⟩))⟩
    refine ⟨fun s h => ?_, fun _ => ⟨_, rfl⟩⟩
    cases h
    obtain ⟨w1, w2⟩ := wO_dvd hW
    refine ⟨q, _, g, w1, fun k => ?_⟩
    rw [wN_q w2]
    congr 1
    refine congrFun (emb_congr fun j hj => ?_) k
    obtain ⟨h2, h3⟩ := zs_q hW hq hj
    unfold ptQ
    rw [List.getD_eq_getElem?_getD, rng_get hj]
    show qv (frX _) = _
    rw [frX_q h2, h3]
theorem emF_spec {m n : Nat} {R : Mat} : ∀ Ps : List (List Nat),
    (emF m n R Ps = none → ∀ P ∈ Ps, ∀ N, rgN n R P = some N → ¬ dot (fun i => R i n) N m < 0) ∧ ∀ N, emF m n R Ps = some N → (∃ P ∈ Ps, rgN n R P = some N) ∧ dot (fun i => R i n) N m < 0
  | [] => ⟨(fun _ P hP => nomatch hP), fun N h => nomatch h⟩
  | P :: Ps => by
    obtain ⟨h1, h2⟩ := emF_spec (m := m) (n := n) (R := R) Ps
    unfold emF
    cases hr : rgN n R P with
    | none =>
      dsimp only
      refine ⟨fun h Q hQ N e => ?_, fun N h => ?_⟩
      · rcases List.mem_cons.mp hQ with rfl | hQ
        · rw [hr] at e; cases e
        · exact h1 h Q hQ N e
      · obtain ⟨⟨Q, hQ, e⟩, c⟩ := h2 N h
        exact ⟨⟨Q, List.mem_cons_of_mem _ hQ, e⟩, c⟩
    | some N0 =>
      dsimp only
      by_cases hd : dot (fun i => R i n) N0 m < 0
      · rw [if_pos hd]
        refine ⟨(fun h => nomatch h), fun N h => ?_⟩
        cases h
        exact ⟨⟨P, List.mem_cons_self, hr⟩, hd⟩
      · rw [if_neg hd]
        refine ⟨fun h Q hQ N e => ?_, fun N h => ?_⟩
        · rcases List.mem_cons.mp hQ with rfl | hQ
          · rw [hr] at e; cases e; exact hd
          · exact h1 h Q hQ N e
        · obtain ⟨⟨Q, hQ, e⟩, c⟩ := h2 N h
          exact ⟨⟨Q, List.mem_cons_of_mem _ hQ, e⟩, c⟩
theorem pick_ok {m n b : Nat} {R : Mat} (ok : okRm m n b R) {P : List Nat} (hP : P ∈ choN (n + 1) m) : okPk m n b R P := by
  obtain ⟨p1, p2, p3⟩ := choN_mem.mp hP
  have := ok.n3
  exact ⟨ok.n3, ok.m14, inc_nodup p1, p2, by omega, ok.R, ok.e3⟩
theorem whole_at {N : Nat → Int} {y : V} {o : Int} (h : ∀ k, (N k : Rat) = (o : Rat) * y k) (m n : Nat) (R : Mat) (j : Nat) : ((dot (fun i => R i j) N m : Int) : Rat) = (o : Rat) * qd y (rq fun i => R i j) m := by
  rw [← qd_int, qd_comm y, ← qd_smul_r]
  exact qd_congr (fun _ _ => rfl) fun k _ => h k
/-- an empty room's shares -/
structure EmOk (m n : Nat) (R : Mat) (N : Nat → Int) : Prop where
  nn : ∀ k, 0 ≤ N k
  eq : ∀ j, j < n → dot (fun i => R i j) N m = 0
  lt : dot (fun i => R i n) N m < 0
  no : ∀ x, ¬ (sysOf m n R).feas x
theorem em_spec {m n b : Nat} {R : Mat} (ok : okRm m n b R) : (∀ N, emN m n R = some N → EmOk m n R N) ∧ (emN m n R = none → ∃ x, (sysOf m n R).feas x) := by
  unfold emN
  obtain ⟨h1, h2⟩ := emF_spec (m := m) (n := n) (R := R) ((choN (n + 1) m).drop 1)
  obtain ⟨tl, t1, t2⟩ := choN_tl (n + 1) m
  have hd : (choN (n + 1) m).drop 1 = tl := by rw [t1]; rfl
  rw [hd] at h1 h2 ⊢
  have tok : ∀ P ∈ tl, okPk m n b R P ∧ 1 ≤ P.length := fun P hP => ⟨pick_ok ok (by rw [t1]; exact List.mem_cons_of_mem _ hP), List.length_pos_iff.mpr (t2 P hP)⟩
  refine ⟨fun N h => ?_, fun h => ?_⟩
  · obtain ⟨⟨P, hP, e⟩, c⟩ := h2 N h
    obtain ⟨okp, p1⟩ := tok P hP
    obtain ⟨q, o, r, o0, hN⟩ := (rg_link okp p1).1 N e
    have cst : (sysOf m n R).cost (emb P (zP n R P q)) < 0 := Rat.not_le.mp fun z => by
      have e := whole_at hN m n R n
      have := Rat.mul_nonneg (Rat.le_of_lt (pos_q o0)) z
      rw [show (sysOf m n R).cost (emb P (zP n R P q)) = qd (emb P (zP n R P q)) (rq fun i => R i n) m from rfl, ← e] at this
      have := Rat.intCast_nonneg.mp this
      omega
    have s := ring_shut (m := m) okp.nd okp.lt r cst
    refine ⟨fun k => ?_, fun j hj => ?_, c, shut_empty s⟩
    · have := Rat.mul_nonneg (Rat.le_of_lt (pos_q o0)) (s.nn k)
      rw [← hN k] at this
      exact Rat.intCast_nonneg.mp this
    · have e := whole_at hN m n R j
      rw [show qd (emb P (zP n R P q)) (rq fun i => R i j) m = (sysOf m n R).at (emb P (zP n R P q)) j from rfl, s.z j hj] at e
      have e : ((dot (fun i => R i j) N m : Int) : Rat) = ((0 : Int) : Rat) := by
        have : ((0 : Int) : Rat) = 0 := rfl
        rw [e]
        grind
      exact Rat.intCast_inj.mp e
  · rcases (sysOf m n R).farkas with ⟨x, hx⟩ | ⟨y, y0, y1, y2⟩
    · exact ⟨x, hx⟩
    · exfalso
      have cut : ∀ a : V, qd (fun k => if k < m then y k else 0) a m = qd y a m := fun a => qd_congr (fun k hk => if_pos hk) fun _ _ => rfl
      have s0 : (sysOf m n R).Shut fun k => if k < m then y k else 0 := by
        refine ⟨fun k => ?_, fun k hk => if_neg (Nat.not_lt.mpr hk), fun j hj => (cut _).trans (y1 j hj), by rw [show (sysOf m n R).cost _ = _ from cut _]; exact y2⟩
        split
        · exact y0 k
        · exact Rat.le_refl
      obtain ⟨y', s, r⟩ := Sys.ring _ _ (Nat.le_refl _) s0
      obtain ⟨q, rp, c, l1, l2⟩ := shut_ring s r
      have hm : supp m y' ∈ choN (n + 1) m := choN_mem.mpr ⟨supp_inc m y', fun k hk => (supp_mem.mp hk).1, l2⟩
      have ht : supp m y' ∈ tl := by
        rw [t1] at hm
        rcases List.mem_cons.mp hm with e | hm
        · rw [e] at l1; exact absurd l1 (by decide)
        · exact hm
      obtain ⟨okp, p1⟩ := tok _ ht
      obtain ⟨N, hN⟩ := (rg_link okp p1).2 ⟨q, rp⟩
      refine h1 h _ ht N hN ?_
      obtain ⟨q', o, r', o0, hk⟩ := (rg_link okp p1).1 N hN
      have eqq : q' = q := by
        have := r'.free
        rw [rp.free] at this
        exact ((List.cons.inj this).1).symm
      subst eqq
      have e := whole_at hk m n R n
      have := Rat.mul_pos (pos_q o0) (show 0 < -((sysOf m n R).cost (emb (supp m y') (zP n R (supp m y') q'))) by grind)
      rw [Rat.mul_neg, show (sysOf m n R).cost (emb (supp m y') (zP n R (supp m y') q')) = qd (emb (supp m y') (zP n R (supp m y') q')) (rq fun i => R i n) m from rfl, ← e, ← Rat.intCast_neg] at this
      have := Rat.intCast_pos.mp this
      omega
end Lp

/-! Linear inequalities, part 13: corners as the program tells them; what most tells. -/
namespace Lp
open Dl
theorem feas_congr {m n : Nat} {R : Mat} {x y : V} (h : ∀ j, j < n → x j = y j) : (sysOf m n R).feas x → (sysOf m n R).feas y := fun f k hk => by
  have z : qd (rq (R k)) x n ≤ (R k n : Rat) := f k hk
  rw [qd_congr (fun _ _ => rfl) h] at z
  exact z
/-! ### corners -/
theorem cn_link {m n b : Nat} {R : Mat} {P : List Nat} (ok : okRm m n b R) :
    (∀ ps, cn1 m n R P = some ps → liesB m n R ps = true) ∧ (Corner m n R P → (sysOf m n R).feas (cP n R P) → ∃ ps, cn1 m n R P = some ps ∧ ∀ j, j < n → ptQ ps j = cP n R P j) := by
  have he := ech_of P.length n (pR R P)
  unfold cn1
  by_cases hr : P.length = rkN m n R
  · rw [if_pos hr]
    unfold solN
    rw [show pR' R P = pR R P from rfl]
    cases hb : badG P.length n (stp P.length n (pR R P)).1 (stp P.length n (pR R P)).2.length with
    | true =>
      refine ⟨(fun s h => nomatch h), fun g => ?_⟩
      have := g.ok
      rw [hb] at this
      cases this
    | false =>
      rw [if_neg (by decide)]
      dsimp only
      by_cases hk : (stp P.length n (pR R P)).2.length = rkN m n R
      · rw [if_pos hk]
        generalize hxs : ((List.range n).map (xG (stp P.length n (pR R P)).1 n (stp P.length n (pR R P)).2)).map frX = ps
        have hq : ∀ j, j < n → ptQ ps j = cP n R P j := fun j hj => by
          rw [← hxs]
          exact xs_q he hj
        have hp : ps.length = n ∧ ∀ p ∈ ps, 0 < p.2 := by
          rw [← hxs]
          refine ⟨by rw [List.length_map, List.length_map, List.length_range], fun p hp => ?_⟩
          obtain ⟨x, hx, rfl⟩ := List.mem_map.mp hp
          obtain ⟨j, _, rfl⟩ := List.mem_map.mp hx
          exact (frX_ok (xG_ne he j)).1
        by_cases hl : liesB m n R ps = true
        · rw [if_pos hl]
          exact ⟨fun s h => by cases h; exact hl, fun _ _ => ⟨ps, rfl, hq⟩⟩
        · rw [if_neg hl]
          refine ⟨(fun s h => nomatch h), fun _ f => ?_⟩
          exact absurd ((lies_q hp.1 hp.2).mpr (feas_congr (fun j hj => (hq j hj).symm) f)) hl
      · rw [if_neg hk]
        exact ⟨(fun s h => nomatch h), fun g => absurd g.ful hk⟩
  · rw [if_neg hr]
    exact ⟨(fun s h => nomatch h), fun g => absurd g.len hr⟩
structure CnOk (m n : Nat) (R : Mat) (ps : List (Int × Int)) : Prop where
  len : ps.length = n
  ok : okP 600 ps
  lies : liesB m n R ps = true
  feas : (sysOf m n R).feas (ptQ ps)
theorem cn_ok {m n b : Nat} {R : Mat} (ok : okRm m n b R) {ps : List (Int × Int)} (h : ps ∈ cnN m n R) : CnOk m n R ps := by
  obtain ⟨h1, h2⟩ := cnN_ok ok h
  obtain ⟨P, hP, e⟩ := List.mem_filterMap.mp h
  have := (cn_link ok).1 ps e
  exact ⟨h1, h2, this, (lies_q h1 fun p hp => (h2 p hp).1).mp this⟩
/-- where the rows let a row come to no more than v, and to v at a point, a corner has it -/
theorem cn_top {m n b : Nat} {R : Mat} {c : V} {v : Rat} (ok : okRm m n b R) (top : ∀ x, (sysOf m n R).feas x → qd c x n ≤ v) {x : V} (hx : (sysOf m n R).feas x) (hv : qd c x n = v) :
    ∃ ps ∈ cnN m n R, qd c (ptQ ps) n = v := by
  obtain ⟨x', f', v', full⟩ := Sys.corner (S := sysOf m n R) (c := c) top _ x (Nat.le_refl _) hx hv
  obtain ⟨P, g, e, f⟩ := corner_pick f' full
  obtain ⟨ps, h1, h2⟩ := (cn_link ok).2 g f
  refine ⟨ps, List.mem_filterMap.mpr ⟨P, choN_mem.mpr ⟨g.inc, g.lt, Nat.le_of_eq g.len⟩, h1⟩, ?_⟩
  rw [qd_congr (a := c) (b := c) (fun _ _ => rfl) h2]
  exact (same_row (S := sysOf m n R) top f' e).trans v'
/-! ### most -/
def mpB (m n : Nat) (R : Mat) (t : Nat → Int) (s : Int × (Nat → Int)) (ps : List (Int × Int)) : Bool := decide (frX (wsF (tabI (n + 1) t) ps 0 1) = lsV m n R s)
theorem frX_eq {p q : Int × Int} (hp : 0 < p.2) (hq : 0 < q.2) : frX p = frX q ↔ qv p = qv q := by
  constructor
  · intro h
    rw [← frX_q (show p.2 ≠ 0 by omega), h, frX_q (by omega)]
  · intro h
    have hx : p.1 * q.2 = q.1 * p.2 := by
      have n1 := ne_q (show p.2 ≠ 0 by omega)
      have n2 := ne_q (show q.2 ≠ 0 by omega)
      unfold qv at h
      have : ((p.1 * q.2 : Int) : Rat) = ((q.1 * p.2 : Int) : Rat) := by
        rw [Rat.intCast_mul, Rat.intCast_mul]
        grind
      exact Rat.intCast_inj.mp this
    have f := fr_eq (t := p.1) (t' := q.1) hp hq hx
    have f : prD (frX p) = prD (frX q) := f
    unfold prD pr at f
    injection f with f
    injection f with f1 f2
    injection f2 with f2 _
    injection f1 with f1
    injection f2 with f2
    exact Prod.ext f1 f2
theorem pick_ok2 {m n b : Nat} {R : Mat} (ok : okRm m n b R) {P : List Nat} (hP : P ∈ choN n m) : okPk m n b R P := by
  obtain ⟨p1, p2, p3⟩ := choN_mem.mp hP
  have := ok.n3
  exact ⟨ok.n3, ok.m14, inc_nodup p1, p2, by omega, ok.R, ok.e3⟩
theorem ls_spec {m n b : Nat} {R : Mat} {t : Nat → Int} (ok : okRm m n b R) (ht : ∀ j, bnd b (t j)) {x0 : V} (hx : (sysOf m n R).feas x0) :
    (lsN m n R t = none → ∀ y, (sysOf m n R).For (rq t) y → ¬ (sysOf m n R).indep y) ∧
    ∀ s, lsN m n R t = some s → ShOk m n R t s ∧ okSh s ∧ ∃ ps ∈ cnN m n R, qd (rq t) (ptQ ps) n = qv (lsV m n R s) := by
  have pos : ∀ P ∈ choN n m, ∀ s, shN n R P t = some s → 0 < s.1 := fun P hP s e => (sh_ok (pick_ok2 ok hP) ht e).pos
  obtain ⟨h1, h2⟩ := lsF_spec (choN n m) none pos (fun s e => nomatch e)
  -- independent shares are told
  have all : ∀ y, (sysOf m n R).For (rq t) y → (sysOf m n R).indep y → ∃ P ∈ choN n m, ∃ s, shN n R P t = some s ∧ yS s = y := fun y f i => by
    obtain ⟨g, e⟩ := for_good f i
    have hl : (supp m y).length ≤ n := by
      rw [← g.ful]
      exact (ech_of n (supp m y).length (tM R (supp m y) t)).len
    have hP : supp m y ∈ choN n m := choN_mem.mpr ⟨supp_inc m y, fun k hk => (supp_mem.mp hk).1, hl⟩
    obtain ⟨k1, k2⟩ := sh_link (pick_ok2 ok hP) ht
    obtain ⟨s, hs⟩ := k2 g
    obtain ⟨_, p, ey⟩ := k1 s hs
    exact ⟨_, hP, s, hs, by rw [yS_of p ey, e]⟩
  refine ⟨fun h y f i => ?_, fun s h => ?_⟩
  · obtain ⟨P, hP, s, hs, _⟩ := all y f i
    rw [(h1 h).2 P hP] at hs
    cases hs
  · obtain ⟨a, _, c⟩ := h2 s h
    rcases a with a | ⟨P, hP, hs⟩
    · cases a
    have so := sh_ok (pick_ok2 ok hP) ht hs
    have sl : P.length ≤ n := (choN_mem.mp hP).2.2
    have n3 := ok.n3
    refine ⟨so, shN_ok (pick_ok2 ok hP) ht (by omega) hs, ?_⟩
    obtain ⟨x, fx, vx⟩ := Sys.strong (S := sysOf m n R) (c := rq t) (v := qv (lsV m n R s)) hx (fun y f i => by
      obtain ⟨P', hP', s', hs', e⟩ := all y f i
      have := c P' hP' s' hs'
      rw [← yS_cost (sh_ok (pick_ok2 ok hP') ht hs').pos, e] at this
      exact this) ⟨yS s, so.for_, yS_cost so.pos m n R⟩
    exact cn_top ok (fun x f => by
      have := so.for_.bound f
      rw [yS_cost so.pos] at this
      exact this) fx vx
theorem cn_some {m n b : Nat} {R : Mat} (ok : okRm m n b R) {x : V} (hx : (sysOf m n R).feas x) : cnN m n R ≠ [] := fun z => by
  obtain ⟨ps, h, _⟩ := cn_top (c := fun _ => 0) (v := 0) ok (fun x _ => by rw [qd_zero fun _ _ => rfl]; exact Rat.le_refl) hx (qd_zero fun _ _ => rfl)
  rw [z] at h
  cases h
/-- the way out -/
theorem con_feas {m n : Nat} {R : Mat} {t : Nat → Int} {d : V} : (sysOf (m + 1) n (conM m n R t)).feas d ↔ (∀ k, k < m → qd (rq (R k)) d n ≤ 0) ∧ qd (rq t) d n ≤ 1 := by
  have c1 : ∀ k, k < m → qd (rq (conM m n R t k)) d n = qd (rq (R k)) d n ∧ conM m n R t k n = 0 := fun k hk => by
    refine ⟨qd_congr (fun j hj => ?_) fun _ _ => rfl, ?_⟩
    · unfold rq conM; rw [if_pos hk, if_pos hj]
    · unfold conM; rw [if_pos hk, if_neg (Nat.lt_irrefl n)]
  have c2 : qd (rq (conM m n R t m)) d n = qd (rq t) d n ∧ conM m n R t m n = 1 := by
    refine ⟨qd_congr (fun j hj => ?_) fun _ _ => rfl, ?_⟩
    · unfold rq conM; rw [if_neg (Nat.lt_irrefl m), if_pos hj]
    · unfold conM; rw [if_neg (Nat.lt_irrefl m), if_neg (Nat.lt_irrefl n)]
  constructor
  · intro h
    refine ⟨fun k hk => ?_, ?_⟩
    · have := h k (by show k < m + 1; omega)
      rw [show (sysOf (m + 1) n (conM m n R t)).A k = rq (conM m n R t k) from rfl, show (sysOf (m + 1) n (conM m n R t)).b k = (conM m n R t k n : Rat) from rfl, (c1 k hk).2] at this
      rw [← (c1 k hk).1]
      exact this
    · have := h m (Nat.lt_succ_self m)
      rw [show (sysOf (m + 1) n (conM m n R t)).A m = rq (conM m n R t m) from rfl, show (sysOf (m + 1) n (conM m n R t)).b m = (conM m n R t m n : Rat) from rfl, c2.2] at this
      rw [← c2.1]
      exact this
  · rintro ⟨h1, h2⟩ k hk
    show qd (rq (conM m n R t k)) d n ≤ (conM m n R t k n : Rat)
    by_cases e : k < m
    · rw [(c1 k e).1, (c1 k e).2]
      exact h1 k e
    · have : k = m := by
        have : k < m + 1 := hk
        omega
      subst this
      rw [c2.1, c2.2]
      exact h2
structure WyOk (m n : Nat) (R : Mat) (t w : Nat → Int) : Prop where
  le : ∀ k, k < m → dot (R k) w n ≤ 0
  gt : 0 < dot t w n
theorem wy_spec {m n b : Nat} {R : Mat} {t : Nat → Int} (ok : okRm (m + 1) n b (conM m n R t)) {d : V} (h1 : ∀ k, k < m → qd (rq (R k)) d n ≤ 0) (h2 : qd (rq t) d n = 1) : WyOk m n R t (wyN m n R t) := by
  have f : (sysOf (m + 1) n (conM m n R t)).feas d := con_feas.mpr ⟨h1, by rw [h2]; exact Rat.le_refl⟩
  obtain ⟨ps, hp, e⟩ := cn_top (c := rq t) (v := 1) ok (fun x hx => (con_feas.mp hx).2) f h2
  have tell : ∀ ps, ps ∈ cnN (m + 1) n (conM m n R t) → (wyB n t ps = true ↔ qd (rq t) (ptQ ps) n = 1) := fun ps hp => by
    have co := cn_ok ok hp
    have hb : ∀ p ∈ ps, 0 < p.2 := fun p hp => (co.ok p hp).1
    have := along_q (r := t) co.len (Nat.le_succ n) hb
    have wp := wsF_pos (tabI (n + 1) t) ps 0 1 (by decide) hb
    have wn := ne_q (show (wsF (tabI (n + 1) t) ps 0 1).2 ≠ 0 by omega)
    unfold wyB
    rw [decide_eq_true_iff, ← this]
    unfold qv
    rw [← Rat.intCast_inj]
    constructor
    · intro z; rw [z]; grind
    · intro z; grind
  unfold wyN
  cases hf : (cnN (m + 1) n (conM m n R t)).find? (wyB n t) with
  | none => exact absurd ((tell ps hp).mpr e) (List.find?_eq_none.mp hf ps hp)
  | some qs =>
    dsimp only
    have hq := List.mem_of_find?_eq_some hf
    have co := cn_ok ok hq
    have v1 := (tell qs hq).mp (List.find?_some hf)
    obtain ⟨w1, w2⟩ := wO_dvd (xs := qs) fun p hp => co.ok p hp
    have key : ∀ r : Nat → Int, ((dot r (wN qs (List.range n) (wO qs 1)) n : Int) : Rat) = (wO qs 1 : Rat) * qd (rq r) (ptQ qs) n := fun r => by
      rw [← qd_int, ← qd_smul_r]
      refine qd_congr (fun _ _ => rfl) fun k hk => ?_
      unfold rq
      rw [wN_q w2]
      unfold emb
      rw [if_pos (List.mem_range.mpr hk), idx_of List.nodup_range (List.getElem?_range hk)]
    obtain ⟨f1, _⟩ := con_feas.mp co.feas
    refine ⟨fun k hk => ?_, ?_⟩
    · have := Rat.mul_nonneg (Rat.le_of_lt (pos_q w1)) (show 0 ≤ -(qd (rq (R k)) (ptQ qs) n) by have := f1 k hk; grind)
      rw [Rat.mul_neg, ← key, ← Rat.intCast_neg] at this
      have := Rat.intCast_nonneg.mp this
      omega
    · have := key t
      rw [v1] at this
      have z : ((dot t (wN qs (List.range n) (wO qs 1)) n : Int) : Rat) = ((wO qs 1 : Int) : Rat) := by rw [this]; grind
      rw [Rat.intCast_inj.mp z]
      exact w1
theorem okc_of {m n b : Nat} {R : Mat} {t : Nat → Int} (ok : okRm m n b R) (ht : ∀ j, bnd b (t j)) (b1 : 1 ≤ b) (m14 : m + 1 ≤ 14) : okRm (m + 1) n b (conM m n R t) := ⟨ok.n1, ok.n3, m14, con_bnd ok.R ht b1, ok.e3, ok.b5⟩
/-- what most tells -/
structure MoOk (m n : Nat) (R : Mat) (t : Nat → Int) (s : Int × (Nat → Int)) (ps : List (Int × Int)) : Prop where
  sh : ShOk m n R t s
  ks : okSh s
  cn : CnOk m n R ps
  val : qd (rq t) (ptQ ps) n = qv (lsV m n R s)
theorem most_none {m n b : Nat} {R : Mat} {t : Nat → Int} (ok : okRm m n b R) (okc : okRm (m + 1) n b (conM m n R t)) (ht : ∀ j, bnd b (t j)) (he : emN m n R = none) (h : lsN m n R t = none) :
    ∃ ps pss, cnN m n R = ps :: pss ∧ CnOk m n R ps ∧ WyOk m n R t (wyN m n R t) := by
  obtain ⟨x, hx⟩ := (em_spec ok).2 he
  have no := (ls_spec ok ht hx).1 h
  obtain ⟨d, d1, d2⟩ := Sys.open (S := sysOf m n R) (c := rq t) hx no
  have := cn_some ok hx
  cases hc : cnN m n R with
  | nil => exact absurd hc this
  | cons ps pss => exact ⟨ps, pss, rfl, cn_ok ok (by rw [hc]; exact List.mem_cons_self), wy_spec okc d1 d2⟩
theorem most_some {m n b : Nat} {R : Mat} {t : Nat → Int} (ok : okRm m n b R) (ht : ∀ j, bnd b (t j)) (he : emN m n R = none) {s : Int × (Nat → Int)} (h : lsN m n R t = some s) :
    ∃ ps pss, (cnN m n R).filter (mpB m n R t s) = ps :: pss ∧ MoOk m n R t s ps := by
  obtain ⟨x, hx⟩ := (em_spec ok).2 he
  obtain ⟨so, ks, ps, hp, v⟩ := (ls_spec ok ht hx).2 s h
  have tell : ∀ ps, ps ∈ cnN m n R → (mpB m n R t s ps = true ↔ qd (rq t) (ptQ ps) n = qv (lsV m n R s)) := fun ps hp => by
    have co := cn_ok ok hp
    have hb : ∀ p ∈ ps, 0 < p.2 := fun p hp => (co.ok p hp).1
    unfold mpB
    rw [decide_eq_true_iff]
    unfold lsV
    rw [frX_eq (wsF_pos _ _ _ _ (by decide) hb) so.pos, along_q co.len (Nat.le_succ n) hb, frX_q (show s.1 ≠ 0 by have := so.pos; omega)]
  have hm : ps ∈ (cnN m n R).filter (mpB m n R t s) := List.mem_filter.mpr ⟨hp, (tell ps hp).mpr v⟩
  cases hc : (cnN m n R).filter (mpB m n R t s) with
  | nil => rw [hc] at hm; cases hm
  | cons qs pss =>
    have hq : qs ∈ (cnN m n R).filter (mpB m n R t s) := by rw [hc]; exact List.mem_cons_self
    obtain ⟨q1, q2⟩ := List.mem_filter.mp hq
    exact ⟨qs, pss, rfl, so, ks, cn_ok ok q1, (tell qs q1).mp q2⟩
end Lp

/-! The D-layer, part 55: the most. -/
namespace Dl
open PySem PySem.Spec
open PyProof.Rows L2
local macro_rules | `(tactic| walk_at "rd") => `(tactic| ((conv => whnf); (try dsimp only [startD, wipeD, q_map_cons, q_map_nil, q_app_cons, q_app_nil, q_len_cons, q_len_nil, q_rep_0, q_rep_s, q_get_0, q_get_s, q_set_0, q_set_s, ifP_t, ifP_f, Nat.reduceAdd, Nat.reduceSub, Int.reduceToNat, Int.reducePow, Int.reduceAdd, Int.reduceMul])))
local macro_rules | `(tactic| walk_at "bx") => `(tactic| first | with_reducible assumption | (apply bnd_mul <;> walk_at "bx") | (apply bnd_addM <;> walk_at "bx") | (apply bnd_subM <;> walk_at "bx") | (apply bnd_negM <;> walk_at "bx") | exact bnd_lit (k := 8) (by decide) | exact bnd_lit (k := 64) (by decide) | (with_reducible (apply_assumption)))
local macro_rules | `(tactic| walk_at "bd") => `(tactic| first | with_reducible assumption | (apply bnd_mono; (walk_at "bx"); first | omega | decide))
local macro_rules | `(tactic| walk_at "sd") => `(tactic| first | with_reducible assumption | omega | with_reducible rfl | exact (rfl : (_ : Bool) = true) | exact (rfl : @Eq (Option D) _ none) | decide | exact few_of (by decide) | exact divOk_small (by decide) (by decide +kernel) | exact mulOk_r (by omega) (by omega) | exact mulOk_l (by omega) (by omega) | ((with_reducible apply mul_of); (walk_at "bx"); (walk_at "bx"); first | omega | decide) | exact few_of (by simp only [List.length_append, List.length_map, List.length_cons, List.length_nil, tab_len, List.length_replicate]; omega))
local macro_rules | `(tactic| walk_at "go") => `(tactic| ((try walk_at "rd"); (repeat (refine And.intro (by walk_at "sd") ?_; try walk_at "rd"))))
/-! ### the most -/
def mostD (m n : Nat) (R : Mat) (t : Nat → Int) : D :=
  match emN m n R with
  | some N => .tup [.str "empty", .tup [.int 0, .lst (tabD m N)]]
  | none => match lsN m n R t with
    | none => .tup [.str "open", ptsD ((cnN m n R).getD 0 []), .lst (tabD n (wyN m n R t))]
    | some s => .tup [.str "most", prD (lsV m n R s), .tup [.int s.1, .lst (tabD m s.2)], ptsD (((cnN m n R).filter (Lp.mpB m n R t s)).getD 0 [])]
abbrev g_most : DF := fun ds Q _ => ∃ (m n b : Nat) (R : Mat) (t : Nat → Int), ds = [.lst (matD m (n + 1) R), rowW (n + 1) t] ∧ okRm m n b R ∧ m + 1 ≤ 14 ∧ (∀ j, bnd b (t j)) ∧ 1 ≤ b ∧ Q (mostD m n R t)
abbrev N_most : List Str := ["room", "row", "many", "shares", "points", "best", "point"]
def tb_most : DS :=
  (dSq (dSet 2 (dOp kSub (dCB kLen (dCons (dVarP 1) dNil)) (dC (.int 1)))) (dSq (dSet 3 (dCall 2 [] g_empty_by (dCons (dVar 0) (dCons (dVar 2) dNil)))) (dSq (dIf (dTest (dOp kIsNot (dVarP 3) (dC .non))) (dRet (dTup (dCons (dC (.str "empty")) (dCons (dVar 3) dNil)))) dNext) (dSq (dSet 4 (dCall 2 [] g_corners (dCons (dVar 0) (dCons (dVar 2) dNil)))) (dSq (dSet 5 (dCall 3 [] g_least_shares (dCons (dVar 0) (dCons (dVar 1) (dCons (dVar 2) dNil))))) (dSq (dIf (dTest (dOp kIs (dVarP 5) (dC .non))) (dRet (dTup (dCons (dC (.str "open")) (dCons (dOp kIx (dVarP 4) (dC (.int 0))) (dCons (dCall 3 [] g_way_out (dCons (dVar 0) (dCons (dVar 1) (dCons (dVar 2) dNil)))) dNil))))) dNext) (dSq (dSet 4 (dLc (dSeq (dVar 4)) (gNm 6) (dTest (dOp kEq (dCall 2 [] g_along3 (dCons (dVar 1) (dCons (dVar 6) dNil))) (dOp kIx (dVarP 5) (dC (.int 0))))) (dVar 6) [6])) (dRet (dTup (dCons (dC (.str "most")) (dCons (dOp kIx (dVarP 5) (dC (.int 0))) (dCons (dOp kIx (dVarP 5) (dC (.int 1))) (dCons (dOp kIx (dVarP 4) (dC (.int 0))) dNil)))))))))))))
theorem atI_z (d : D) (ds : List D) : atI (d :: ds) 0 = some d := by rw [show (0 : Int) = ((0 : Nat) : Int) from rfl, atI_nn]; rfl
theorem rd_most (ds : List D) (Q E : EQ) (_ : ds.length = 2) (h : g_most ds Q E) : tb_most (dE Q E) (startD N_most ds) := by
  obtain ⟨m, n, b, R, t, rfl, ok, m1, ht, b1, q⟩ := h
  have n3 := ok.n3
  have m14 := ok.m14
  have okc := Lp.okc_of ok ht b1 m1
  have b6 : b ≤ 600 := Nat.le_trans (eb_mono (b := b) (Nat.zero_le 3)) ok.e3
  unfold tb_most dE
  walk_at "go"
  unfold rowW
  walk_at "rd"
  rw [tab_len, show ((n + 1 : Nat) : Int) - 1 = (n : Int) by omega]
  refine ⟨m, n, b, R, rfl, ok, ?_⟩
  unfold mostD at q
  cases he : emN m n R with
  | some N =>
    rw [he] at q
    unfold emD
    walk_at "go"
    exact q
  | none =>
    rw [he] at q
    dsimp only at q
    unfold emD
    walk_at "go"
    refine ⟨m, n, b, R, rfl, ok, ?_⟩
    walk_at "go"
    refine ⟨m, n, b, R, t, rfl, ok, ht, b1, ?_⟩
    cases hs : lsN m n R t with
    | none =>
      obtain ⟨ps, pss, hc, co, wy⟩ := Lp.most_none ok okc ht he hs
      rw [hs, hc] at q
      rw [hc]
      unfold lsD
      walk_at "go"
      rw [atI_z]
      walk_at "go"
      refine ⟨m, n, b, R, t, rfl, ⟨ok.n1, ok.n3, m1, ok.R, ok.e3, ok.b5⟩, ht, b1, ?_⟩
      walk_at "go"
      exact q
    | some s =>
      obtain ⟨ps, pss, hc, mo⟩ := Lp.most_some ok ht he hs
      rw [hs] at q
      dsimp only at q
      rw [hc] at q
      have l1 : (cnN m n R).length ≤ 2 ^ 14 := by
        have h1 := List.length_filterMap_le (cn1 m n R) (choN (rkN m n R) m)
        have h2 := choN_len (rkN m n R) m
        have h3 : 2 ^ m ≤ 2 ^ 14 := Nat.pow_le_pow_right (by decide) (by omega)
        exact Nat.le_trans h1 (Nat.le_trans h2 h3)
      unfold lsD
      walk_at "go"
      refine compL_fil ptsD ptsD (Lp.mpB m n R t s) (cnN m n R) (fun qs hqs K1 K0 h1 h0 => ?_) ?_
      · have co := Lp.cn_ok ok hqs
        walk_at "go"
        refine ⟨tabI (n + 1) t, qs, .tup (tabD (n + 1) t), rfl, .inl ?_, by have := co.len; omega, fun a ha => ?_, co.ok, ?_⟩
        · unfold tabI tabD
          rw [List.map_map]
          rfl
        · obtain ⟨j, _, rfl⟩ := List.mem_map.mp ha
          exact bnd_mono (ht j) b6
        walk_at "go"
        have kf : (fr (wsF (tabI (n + 1) t) qs 0 1).1 (wsF (tabI (n + 1) t) qs 0 1).2).okk 64 = true := rfl
        have kg : (prD (lsV m n R s)).okk 64 = true := rfl
        have ev : PyData.eqv (fr (wsF (tabI (n + 1) t) qs 0 1).1 (wsF (tabI (n + 1) t) qs 0 1).2).py (prD (lsV m n R s)).py = Lp.mpB m n R t s qs := by
          have e := eqv_tup [(frX (wsF (tabI (n + 1) t) qs 0 1)).1, (frX (wsF (tabI (n + 1) t) qs 0 1)).2] [(lsV m n R s).1, (lsV m n R s).2]
          refine (show _ = _ from e).trans (decide_eq_decide.mpr ⟨fun h => ?_, fun h => ?_⟩)
          · injection h with h1 h2
            injection h2 with h2 _
            exact Prod.ext h1 h2
          · rw [h]
        refine ⟨plain_of kf, plain_of kg, ?_⟩
        rw [ev]
        by_cases hz : Lp.mpB m n R t s qs = true
        · have h1 := h1 hz
          rw [hz]
          walk_at "go"
          exact h1
        · have hz := Bool.eq_false_iff.mpr hz
          have h0 := h0 hz
          rw [hz]
          walk_at "go"
          exact h0
      rw [hc]
      walk_at "go"
      rw [atI_z]
      walk_at "go"
      exact q
end Dl

namespace K62
open PySem PySem.Spec
open PyProof.Rows L2 Dl
def topS (i : Nat) : Stmt := PySem.Challenge.pw_steadyhand_k62_most_in_boxes.main.body.getD i (.Pass ⟨0, 0, 0, 0⟩)
def opD : Option Int → D
  | none => .non
  | some i => .int i
def bxD (q : Option Int × Option Int) : D := .lst [opD q.1, opD q.2]
structure okBx (n : Nat) (bs : List (Option Int × Option Int)) : Prop where
  len : bs.length = n
  lo : ∀ q ∈ bs, ∀ v, q.1 = some v → bnd 31 v
  hi : ∀ q ∈ bs, ∀ v, q.2 = some v → bnd 41 v
abbrev g__law_box : DF := fun ds Q _ => ∃ (c : Int) (n : Nat), ds = [.int c, .int n] ∧ 1 ≤ n ∧ n ≤ 3 ∧ ∀ bs, okBx n bs → Q (.lst (bs.map bxD))
/-- a side's bound -/
def sd (bs : List (Option Int × Option Int)) (k s : Nat) : Option Int := if s = 0 then (bs.getD k (none, none)).1 else (bs.getD k (none, none)).2
/-- a row of a side -/
def isR (n : Nat) (bs : List (Option Int × Option Int)) (k s : Nat) (r : Nat → Int) : Prop := ∃ o v : Int, sd bs k s = some v ∧ 1 ≤ o ∧ o ≤ 10 ^ 6 ∧ r = fun j => if j = n then o * (2 * s - 1) * v else if j = k then o * (2 * s - 1) else 0
structure okRs (n : Nat) (bs : List (Option Int × Option Int)) (rs : List (Nat → Int)) (J : Nat) : Prop where
  len : rs.length ≤ J * (if n < 3 then 2 else 1)
  is : ∀ r ∈ rs, ∃ k s, k < n ∧ s < 2 ∧ isR n bs k s r
  all : ∀ k s, s < 2 → 2 * k + s < J → sd bs k s ≠ none → ∃ r ∈ rs, isR n bs k s r
abbrev g__law_room : DF := fun ds Q _ => ∃ (bs : List (Option Int × Option Int)) (c : Int) (n : Nat), ds = [.lst (bs.map bxD), .int c] ∧ 1 ≤ n ∧ n ≤ 3 ∧ okBx n bs ∧ ∀ rs, okRs n bs rs (2 * n) → Q (.lst (rs.map (rowW (n + 1))))
/-- what the top leaves: the built-in names are no names of the module, the defs and classes stand -/
structure Txt (K : PySem.W.Frag) (mg : Str → Option Value) (a_is_whole a_common a_fraction a_plus a_times a_under a_along a_holds a_lies_in a_divisor_of a_lowest a_added a_crossed a_first_with a_reduced a_solution a_choices a_turned_rows a_made_whole a_shares_by a_ring_of a_empty_by a_corners a_way_out a_least_shares a_most a__law_cell_at a__law_stream a__law_number a__law_box a__law_room a_law : Addr) : Prop where
  b_abs : mg "abs" = none
  b_all : mg "all" = none
  b_bool : mg "bool" = none
  b_int : mg "int" = none
  b_isinstance : mg "isinstance" = none
  b_len : mg "len" = none
  b_list : mg "list" = none
  b_range : mg "range" = none
  b_tuple : mg "tuple" = none
  b_zip : mg "zip" = none
  f_is_whole : mg "is_whole" = some (.ref a_is_whole)
  f_common : mg "common" = some (.ref a_common)
  f_fraction : mg "fraction" = some (.ref a_fraction)
  f_plus : mg "plus" = some (.ref a_plus)
  f_times : mg "times" = some (.ref a_times)
  f_under : mg "under" = some (.ref a_under)
  f_along : mg "along" = some (.ref a_along)
  f_holds : mg "holds" = some (.ref a_holds)
  f_lies_in : mg "lies_in" = some (.ref a_lies_in)
  f_divisor_of : mg "divisor_of" = some (.ref a_divisor_of)
  f_lowest : mg "lowest" = some (.ref a_lowest)
  f_added : mg "added" = some (.ref a_added)
  f_crossed : mg "crossed" = some (.ref a_crossed)
  f_first_with : mg "first_with" = some (.ref a_first_with)
  f_reduced : mg "reduced" = some (.ref a_reduced)
  f_solution : mg "solution" = some (.ref a_solution)
  f_choices : mg "choices" = some (.ref a_choices)
  f_turned_rows : mg "turned_rows" = some (.ref a_turned_rows)
  f_made_whole : mg "made_whole" = some (.ref a_made_whole)
  f_shares_by : mg "shares_by" = some (.ref a_shares_by)
  f_ring_of : mg "ring_of" = some (.ref a_ring_of)
  f_empty_by : mg "empty_by" = some (.ref a_empty_by)
  f_corners : mg "corners" = some (.ref a_corners)
  f_way_out : mg "way_out" = some (.ref a_way_out)
  f_least_shares : mg "least_shares" = some (.ref a_least_shares)
  f_most : mg "most" = some (.ref a_most)
  f__law_cell_at : mg "_law_cell_at" = some (.ref a__law_cell_at)
  f__law_stream : mg "_law_stream" = some (.ref a__law_stream)
  f__law_number : mg "_law_number" = some (.ref a__law_number)
  f__law_box : mg "_law_box" = some (.ref a__law_box)
  f__law_room : mg "_law_room" = some (.ref a__law_room)
  f_law : mg "law" = some (.ref a_law)

section
variable {P : Program} {w : World} {K : PySem.W.Frag} {mg : Str → Option Value} {base : Heap} {a_is_whole a_common a_fraction a_plus a_times a_under a_along a_holds a_lies_in a_divisor_of a_lowest a_added a_crossed a_first_with a_reduced a_solution a_choices a_turned_rows a_made_whole a_shares_by a_ring_of a_empty_by a_corners a_way_out a_least_shares a_most a__law_cell_at a__law_stream a__law_number a__law_box a__law_room a_law : Addr}
/-! ### is_whole -/
abbrev s_is_whole : Stmt := topS 4
theorem sc_is_whole : FnScope N_is_whole ["thing"] (defScope s_is_whole) := ⟨rfl, rfl, rfl, by decide +kernel, rfl, by decide +kernel, by decide +kernel⟩
theorem der_is_whole (T : Txt K mg a_is_whole a_common a_fraction a_plus a_times a_under a_along a_holds a_lies_in a_divisor_of a_lowest a_added a_crossed a_first_with a_reduced a_solution a_choices a_turned_rows a_made_whole a_shares_by a_ring_of a_empty_by a_corners a_way_out a_least_shares a_most a__law_cell_at a__law_stream a__law_number a__law_box a__law_room a_law) 
    {f : Addr} {cdv : Value} {A : Around} {outer : List Env} {s : Shared} {H : Hp} {E : XK} (hr : Room 0 (A.deeper (envOfC "is_whole" (defScope s_is_whole) s.heap.objs.size f cdv))) :
    RSs (cxOf (L2.CX P w) P w K mg base N_is_whole "is_whole" (defScope s_is_whole) f cdv A outer s H E) (WF E) (defBody s_is_whole) (tb_is_whole K) :=
  (rss_one (rs_ret (re_and (RE.p (re_callB (cd_isi (K := K)) T.b_isinstance (rpa_cons (rp_var 0) (rpa_cons (RE.p (re_ty T.b_int (by decide +kernel))) rpa_nil)))) (re_one (re_not (RE.p (re_callB (cd_isi (K := K)) T.b_isinstance (rpa_cons (rp_var 0) (rpa_cons (RE.p (re_ty T.b_bool (by decide +kernel))) rpa_nil)))))))))
/-! ### common -/
abbrev s_common : Stmt := topS 5
theorem sc_common : FnScope N_common ["one", "other"] (defScope s_common) := ⟨rfl, rfl, rfl, by decide +kernel, rfl, by decide +kernel, by decide +kernel⟩
theorem der_common (T : Txt K mg a_is_whole a_common a_fraction a_plus a_times a_under a_along a_holds a_lies_in a_divisor_of a_lowest a_added a_crossed a_first_with a_reduced a_solution a_choices a_turned_rows a_made_whole a_shares_by a_ring_of a_empty_by a_corners a_way_out a_least_shares a_most a__law_cell_at a__law_stream a__law_number a__law_box a__law_room a_law) 
    {f : Addr} {cdv : Value} {A : Around} {outer : List Env} {s : Shared} {H : Hp} {E : XK} (hr : Room 0 (A.deeper (envOfC "common" (defScope s_common) s.heap.objs.size f cdv))) :
    RSs (cxOf (L2.CX P w) P w K mg base N_common "common" (defScope s_common) f cdv A outer s H E) (WF E) (defBody s_common) (tb_common) :=
  (rss_cons (rs_while (passes_of rfl) (rt_cmp (opd_ne hr.units) (rp_var 1) (RE.p re_int)) (rss_one (rs_par 0 1 sc_common.nd (ra_cons (re_var 1) (ra_cons (re_op opd_mod (rp_var 0) (rp_var 1)) ra_nil))))) (rss_one (rs_ret (re_callB cd_abs T.b_abs (rpa_cons (rp_var 0) rpa_nil)))))
/-! ### fraction -/
abbrev s_fraction : Stmt := topS 6
theorem sc_fraction : FnScope N_fraction ["top", "bottom"] (defScope s_fraction) := ⟨rfl, rfl, rfl, by decide +kernel, rfl, by decide +kernel, by decide +kernel⟩
theorem der_fraction (T : Txt K mg a_is_whole a_common a_fraction a_plus a_times a_under a_along a_holds a_lies_in a_divisor_of a_lowest a_added a_crossed a_first_with a_reduced a_solution a_choices a_turned_rows a_made_whole a_shares_by a_ring_of a_empty_by a_corners a_way_out a_least_shares a_most a__law_cell_at a__law_stream a__law_number a__law_box a__law_room a_law) (D_is_whole : FD P w K mg base 1 a_is_whole 1 [] g_is_whole) (D_common : FD P w K mg base 1 a_common 2 [] g_common)
    {f : Addr} {cdv : Value} {A : Around} {outer : List Env} {s : Shared} {H : Hp} {E : XK} (hr : Room 1 (A.deeper (envOfC "fraction" (defScope s_fraction) s.heap.objs.size f cdv))) :
    RSs (cxOf (L2.CX P w) P w K mg base N_fraction "fraction" (defScope s_fraction) f cdv A outer s H E) (WF E) (defBody s_fraction) (tb_fraction) :=
  (rss_cons (rs_if (RW.toT (rw_or (rt_not (rt_val (RE.p (re_call D_is_whole (hr.mono (by decide)) T.f_is_whole (takes_of rfl rfl rfl rfl) (ra_cons (re_var 0) ra_nil))))) (rw_or (rt_not (rt_val (RE.p (re_call D_is_whole (hr.mono (by decide)) T.f_is_whole (takes_of rfl rfl rfl rfl) (ra_cons (re_var 1) ra_nil))))) (rw_or1 (rt_cmp (opd_eq hr.units) (rp_var 1) (RE.p re_int)))))) (rss_one rs_never) rss_nil) (rss_cons (rs_set 2 sc_fraction.nd (re_call D_common (hr.mono (by decide)) T.f_common (takes_of rfl rfl rfl rfl) (ra_cons (re_var 0) (ra_cons (re_var 1) ra_nil)))) (rss_cons (rs_if (rt_cmp opd_lt (rp_var 1) (RE.p re_int)) (rss_one (rs_set 2 sc_fraction.nd (re_op opd_sub (RE.p re_int) (rp_var 2)))) rss_nil) (rss_one (rs_ret (re_tup (ra_cons (re_op opd_div (rp_var 0) (rp_var 2)) (ra_cons (re_op opd_div (rp_var 1) (rp_var 2)) ra_nil))))))))
/-! ### plus -/
abbrev s_plus : Stmt := topS 7
theorem sc_plus : FnScope N_plus ["one", "other"] (defScope s_plus) := ⟨rfl, rfl, rfl, by decide +kernel, rfl, by decide +kernel, by decide +kernel⟩
theorem der_plus (T : Txt K mg a_is_whole a_common a_fraction a_plus a_times a_under a_along a_holds a_lies_in a_divisor_of a_lowest a_added a_crossed a_first_with a_reduced a_solution a_choices a_turned_rows a_made_whole a_shares_by a_ring_of a_empty_by a_corners a_way_out a_least_shares a_most a__law_cell_at a__law_stream a__law_number a__law_box a__law_room a_law) (D_fraction : FD P w K mg base 2 a_fraction 2 [] g_fraction)
    {f : Addr} {cdv : Value} {A : Around} {outer : List Env} {s : Shared} {H : Hp} {E : XK} (hr : Room 2 (A.deeper (envOfC "plus" (defScope s_plus) s.heap.objs.size f cdv))) :
    RSs (cxOf (L2.CX P w) P w K mg base N_plus "plus" (defScope s_plus) f cdv A outer s H E) (WF E) (defBody s_plus) (tb_plus) :=
  (rss_one (rs_ret (re_call D_fraction (hr.mono (by decide)) T.f_fraction (takes_of rfl rfl rfl rfl) (ra_cons (re_op opd_add (RE.p (re_op opd_mul (RE.p (re_ix ixd_seq (rp_var 0) (RE.p re_int))) (RE.p (re_ix ixd_seq (rp_var 1) (RE.p re_int))))) (RE.p (re_op opd_mul (RE.p (re_ix ixd_seq (rp_var 1) (RE.p re_int))) (RE.p (re_ix ixd_seq (rp_var 0) (RE.p re_int)))))) (ra_cons (re_op opd_mul (RE.p (re_ix ixd_seq (rp_var 0) (RE.p re_int))) (RE.p (re_ix ixd_seq (rp_var 1) (RE.p re_int)))) ra_nil)))))
/-! ### times -/
abbrev s_times : Stmt := topS 8
theorem sc_times : FnScope N_times ["one", "other"] (defScope s_times) := ⟨rfl, rfl, rfl, by decide +kernel, rfl, by decide +kernel, by decide +kernel⟩
theorem der_times (T : Txt K mg a_is_whole a_common a_fraction a_plus a_times a_under a_along a_holds a_lies_in a_divisor_of a_lowest a_added a_crossed a_first_with a_reduced a_solution a_choices a_turned_rows a_made_whole a_shares_by a_ring_of a_empty_by a_corners a_way_out a_least_shares a_most a__law_cell_at a__law_stream a__law_number a__law_box a__law_room a_law) (D_fraction : FD P w K mg base 2 a_fraction 2 [] g_fraction)
    {f : Addr} {cdv : Value} {A : Around} {outer : List Env} {s : Shared} {H : Hp} {E : XK} (hr : Room 2 (A.deeper (envOfC "times" (defScope s_times) s.heap.objs.size f cdv))) :
    RSs (cxOf (L2.CX P w) P w K mg base N_times "times" (defScope s_times) f cdv A outer s H E) (WF E) (defBody s_times) (tb_times) :=
  (rss_one (rs_ret (re_call D_fraction (hr.mono (by decide)) T.f_fraction (takes_of rfl rfl rfl rfl) (ra_cons (re_op opd_mul (RE.p (re_ix ixd_seq (rp_var 0) (RE.p re_int))) (RE.p (re_ix ixd_seq (rp_var 1) (RE.p re_int)))) (ra_cons (re_op opd_mul (RE.p (re_ix ixd_seq (rp_var 0) (RE.p re_int))) (RE.p (re_ix ixd_seq (rp_var 1) (RE.p re_int)))) ra_nil)))))
/-! ### under -/
abbrev s_under : Stmt := topS 9
theorem sc_under : FnScope N_under ["one", "other"] (defScope s_under) := ⟨rfl, rfl, rfl, by decide +kernel, rfl, by decide +kernel, by decide +kernel⟩
theorem der_under (T : Txt K mg a_is_whole a_common a_fraction a_plus a_times a_under a_along a_holds a_lies_in a_divisor_of a_lowest a_added a_crossed a_first_with a_reduced a_solution a_choices a_turned_rows a_made_whole a_shares_by a_ring_of a_empty_by a_corners a_way_out a_least_shares a_most a__law_cell_at a__law_stream a__law_number a__law_box a__law_room a_law) 
    {f : Addr} {cdv : Value} {A : Around} {outer : List Env} {s : Shared} {H : Hp} {E : XK} (hr : Room 0 (A.deeper (envOfC "under" (defScope s_under) s.heap.objs.size f cdv))) :
    RSs (cxOf (L2.CX P w) P w K mg base N_under "under" (defScope s_under) f cdv A outer s H E) (WF E) (defBody s_under) (tb_under) :=
  (rss_one (rs_ret (re_cmp opd_lt (RE.p (re_op opd_mul (RE.p (re_ix ixd_seq (rp_var 0) (RE.p re_int))) (RE.p (re_ix ixd_seq (rp_var 1) (RE.p re_int))))) (RE.p (re_op opd_mul (RE.p (re_ix ixd_seq (rp_var 1) (RE.p re_int))) (RE.p (re_ix ixd_seq (rp_var 0) (RE.p re_int))))))))
/-! ### along -/
abbrev s_along : Stmt := topS 11
abbrev N_along : List Str := N_along3
abbrev g_along : DF := g_along3
abbrev tb_along  : DS := tb_along3
theorem rd_along  (ds : List D) (Q E : EQ) (h1 : ds.length = 2) (h2 : g_along ds Q E) : tb_along (dE Q E) (startD N_along ds) := rd_along3 ds Q E h1 h2
theorem sc_along : FnScope N_along ["row", "point"] (defScope s_along) := ⟨rfl, rfl, rfl, by decide +kernel, rfl, by decide +kernel, by decide +kernel⟩
theorem der_along (T : Txt K mg a_is_whole a_common a_fraction a_plus a_times a_under a_along a_holds a_lies_in a_divisor_of a_lowest a_added a_crossed a_first_with a_reduced a_solution a_choices a_turned_rows a_made_whole a_shares_by a_ring_of a_empty_by a_corners a_way_out a_least_shares a_most a__law_cell_at a__law_stream a__law_number a__law_box a__law_room a_law) (D_plus : FD P w K mg base 3 a_plus 2 [] g_plus) (D_times : FD P w K mg base 3 a_times 2 [] g_times) (D_fraction_d : FD P w K mg base 2 a_fraction 2 [.int 1] g_fraction)
    {f : Addr} {cdv : Value} {A : Around} {outer : List Env} {s : Shared} {H : Hp} {E : XK} (hr : Room 3 (A.deeper (envOfC "along" (defScope s_along) s.heap.objs.size f cdv))) :
    RSs (cxOf (L2.CX P w) P w K mg base N_along "along" (defScope s_along) f cdv A outer s H E) (WF E) (defBody s_along) (tb_along) :=
  (rss_cons (rs_set 2 sc_along.nd (re_call D_fraction_d (hr.mono (by decide)) T.f_fraction (takes_of rfl rfl rfl rfl) (ra_cons re_int ra_nil))) (rss_cons (rs_for (passes_of rfl) (ri_zip (re_var 0) (re_var 1) T.b_zip) (rg_tup (rgs_cons (rg_name 3 sc_along.nd) (rgs_cons (rg_name 4 sc_along.nd) rgs_nil))) (rss_one (rs_set 2 sc_along.nd (re_call D_plus (hr.mono (by decide)) T.f_plus (takes_of rfl rfl rfl rfl) (ra_cons (re_var 2) (ra_cons (re_call D_times (hr.mono (by decide)) T.f_times (takes_of rfl rfl rfl rfl) (ra_cons (re_call D_fraction_d (hr.mono (by decide)) T.f_fraction (takes_of rfl rfl rfl rfl) (ra_cons (re_var 3) ra_nil)) (ra_cons (re_var 4) ra_nil))) ra_nil)))))) (rss_one (rs_ret (re_var 2)))))
/-! ### holds -/
abbrev s_holds : Stmt := topS 12
abbrev N_holds : List Str := N_holds3
abbrev g_holds : DF := g_holds3
abbrev tb_holds  : DS := tb_holds3
theorem rd_holds  (ds : List D) (Q E : EQ) (h1 : ds.length = 2) (h2 : g_holds ds Q E) : tb_holds (dE Q E) (startD N_holds ds) := rd_holds3 ds Q E h1 h2
theorem sc_holds : FnScope N_holds ["row", "point"] (defScope s_holds) := ⟨rfl, rfl, rfl, by decide +kernel, rfl, by decide +kernel, by decide +kernel⟩
theorem der_holds (T : Txt K mg a_is_whole a_common a_fraction a_plus a_times a_under a_along a_holds a_lies_in a_divisor_of a_lowest a_added a_crossed a_first_with a_reduced a_solution a_choices a_turned_rows a_made_whole a_shares_by a_ring_of a_empty_by a_corners a_way_out a_least_shares a_most a__law_cell_at a__law_stream a__law_number a__law_box a__law_room a_law) (D_under : FD P w K mg base 1 a_under 2 [] g_under) (D_along : FD P w K mg base 4 a_along 2 [] g_along) (D_fraction_d : FD P w K mg base 2 a_fraction 2 [.int 1] g_fraction)
    {f : Addr} {cdv : Value} {A : Around} {outer : List Env} {s : Shared} {H : Hp} {E : XK} (hr : Room 4 (A.deeper (envOfC "holds" (defScope s_holds) s.heap.objs.size f cdv))) :
    RSs (cxOf (L2.CX P w) P w K mg base N_holds "holds" (defScope s_holds) f cdv A outer s H E) (WF E) (defBody s_holds) (tb_holds) :=
  (rss_one (rs_ret (re_not (RE.p (re_call D_under (hr.mono (by decide)) T.f_under (takes_of rfl rfl rfl rfl) (ra_cons (re_call D_fraction_d (hr.mono (by decide)) T.f_fraction (takes_of rfl rfl rfl rfl) (ra_cons (re_ix ixd_seq (rp_var 0) (RE.p (re_neg (RE.p re_int)))) ra_nil)) (ra_cons (re_call D_along (hr.mono (by decide)) T.f_along (takes_of rfl rfl rfl rfl) (ra_cons (re_var 0) (ra_cons (re_var 1) ra_nil))) ra_nil)))))))
/-! ### lies_in -/
abbrev s_lies_in : Stmt := topS 13
abbrev N_lies_in : List Str := N_lies_in3
abbrev g_lies_in : DF := g_lies_in3
abbrev tb_lies_in  : DS := tb_lies_in3
theorem rd_lies_in  (ds : List D) (Q E : EQ) (h1 : ds.length = 2) (h2 : g_lies_in ds Q E) : tb_lies_in (dE Q E) (startD N_lies_in ds) := rd_lies_in3 ds Q E h1 h2
theorem sc_lies_in : FnScope N_lies_in ["room", "point"] (defScope s_lies_in) := ⟨rfl, rfl, rfl, by decide +kernel, rfl, by decide +kernel, by decide +kernel⟩
theorem der_lies_in (T : Txt K mg a_is_whole a_common a_fraction a_plus a_times a_under a_along a_holds a_lies_in a_divisor_of a_lowest a_added a_crossed a_first_with a_reduced a_solution a_choices a_turned_rows a_made_whole a_shares_by a_ring_of a_empty_by a_corners a_way_out a_least_shares a_most a__law_cell_at a__law_stream a__law_number a__law_box a__law_room a_law) (D_holds : FD P w K mg base 5 a_holds 2 [] g_holds)
    {f : Addr} {cdv : Value} {A : Around} {outer : List Env} {s : Shared} {H : Hp} {E : XK} (hr : Room 5 (A.deeper (envOfC "lies_in" (defScope s_lies_in) s.heap.objs.size f cdv))) :
    RSs (cxOf (L2.CX P w) P w K mg base N_lies_in "lies_in" (defScope s_lies_in) f cdv A outer s H E) (WF E) (defBody s_lies_in) (tb_lies_in) :=
  (rss_one (rs_ret (re_callB (cd_all rfl) T.b_all (rpa_cons (RE.p (by exact (RN.e (rn_lc sc_lies_in.nd (ri_seq (re_var 0)) (blkOk_by (own := [("row", 2)]) (N := N_lies_in) (sc := (defScope s_lies_in)) (by decide +kernel)) (fun _ _ _ _ _ => (rg_name 2 sc_lies_in.nd)) (fun _ _ _ _ _ => rts_nil) (fun _ _ _ _ _ => (re_call D_holds (hr.mono (by decide)) T.f_holds takes0 (ra_cons (re_var 2) (ra_cons (re_var 1) ra_nil)))))))) rpa_nil))))
/-! ### divisor_of -/
abbrev s_divisor_of : Stmt := topS 14
theorem sc_divisor_of : FnScope N_divisor_of ["numbers"] (defScope s_divisor_of) := ⟨rfl, rfl, rfl, by decide +kernel, rfl, by decide +kernel, by decide +kernel⟩
theorem der_divisor_of (T : Txt K mg a_is_whole a_common a_fraction a_plus a_times a_under a_along a_holds a_lies_in a_divisor_of a_lowest a_added a_crossed a_first_with a_reduced a_solution a_choices a_turned_rows a_made_whole a_shares_by a_ring_of a_empty_by a_corners a_way_out a_least_shares a_most a__law_cell_at a__law_stream a__law_number a__law_box a__law_room a_law) (D_common : FD P w K mg base 1 a_common 2 [] g_common)
    {f : Addr} {cdv : Value} {A : Around} {outer : List Env} {s : Shared} {H : Hp} {E : XK} (hr : Room 1 (A.deeper (envOfC "divisor_of" (defScope s_divisor_of) s.heap.objs.size f cdv))) :
    RSs (cxOf (L2.CX P w) P w K mg base N_divisor_of "divisor_of" (defScope s_divisor_of) f cdv A outer s H E) (WF E) (defBody s_divisor_of) (tb_divisor_of) :=
  (rss_cons (rs_set 1 sc_divisor_of.nd re_int) (rss_cons (rs_for (passes_of rfl) (ri_seq (re_var 0)) (rg_name 2 sc_divisor_of.nd) (rss_one (rs_set 1 sc_divisor_of.nd (re_call D_common (hr.mono (by decide)) T.f_common (takes_of rfl rfl rfl rfl) (ra_cons (re_var 2) (ra_cons (re_var 1) ra_nil)))))) (rss_one (rs_ret (re_var 1)))))
/-! ### lowest -/
abbrev s_lowest : Stmt := topS 15
theorem sc_lowest : FnScope N_lowest ["row"] (defScope s_lowest) := ⟨rfl, rfl, rfl, by decide +kernel, rfl, by decide +kernel, by decide +kernel⟩
theorem der_lowest (T : Txt K mg a_is_whole a_common a_fraction a_plus a_times a_under a_along a_holds a_lies_in a_divisor_of a_lowest a_added a_crossed a_first_with a_reduced a_solution a_choices a_turned_rows a_made_whole a_shares_by a_ring_of a_empty_by a_corners a_way_out a_least_shares a_most a__law_cell_at a__law_stream a__law_number a__law_box a__law_room a_law) (D_divisor_of : FD P w K mg base 2 a_divisor_of 1 [] g_divisor_of)
    {f : Addr} {cdv : Value} {A : Around} {outer : List Env} {s : Shared} {H : Hp} {E : XK} (hr : Room 2 (A.deeper (envOfC "lowest" (defScope s_lowest) s.heap.objs.size f cdv))) :
    RSs (cxOf (L2.CX P w) P w K mg base N_lowest "lowest" (defScope s_lowest) f cdv A outer s H E) (WF E) (defBody s_lowest) (tb_lowest) :=
  (rss_cons (rs_set 1 sc_lowest.nd (re_call D_divisor_of (hr.mono (by decide)) T.f_divisor_of (takes_of rfl rfl rfl rfl) (ra_cons (re_var 0) ra_nil))) (rss_cons (rs_if (rt_cmp (opd_eq hr.units) (rp_var 1) (RE.p re_int)) (rss_one (rs_ret (re_var 0))) rss_nil) (rss_one (rs_ret (re_callTy cd_tuple T.b_tuple (rpa_cons (RE.p (by exact (RN.e (rn_lc sc_lowest.nd (ri_seq (re_var 0)) (blkOk_by (own := [("number", 2)]) (N := N_lowest) (sc := (defScope s_lowest)) (by decide +kernel)) (fun _ _ _ _ _ => (rg_name 2 sc_lowest.nd)) (fun _ _ _ _ _ => rts_nil) (fun _ _ _ _ _ => (re_op opd_div (rp_var 2) (rp_var 1))))))) rpa_nil))))))
/-! ### added -/
abbrev s_added : Stmt := topS 17
abbrev N_added : List Str := N_addedM
abbrev g_added : DF := g_addedM
abbrev tb_added  : DS := tb_addedM
theorem rd_added  (ds : List D) (Q E : EQ) (h1 : ds.length = 3) (h2 : g_added ds Q E) : tb_added (dE Q E) (startD N_added ds) := rd_addedM ds Q E h1 h2
theorem sc_added : FnScope N_added ["rows", "numbers", "many"] (defScope s_added) := ⟨rfl, rfl, rfl, by decide +kernel, rfl, by decide +kernel, by decide +kernel⟩
theorem der_added (T : Txt K mg a_is_whole a_common a_fraction a_plus a_times a_under a_along a_holds a_lies_in a_divisor_of a_lowest a_added a_crossed a_first_with a_reduced a_solution a_choices a_turned_rows a_made_whole a_shares_by a_ring_of a_empty_by a_corners a_way_out a_least_shares a_most a__law_cell_at a__law_stream a__law_number a__law_box a__law_room a_law) 
    {f : Addr} {cdv : Value} {A : Around} {outer : List Env} {s : Shared} {H : Hp} {E : XK} (hr : Room 0 (A.deeper (envOfC "added" (defScope s_added) s.heap.objs.size f cdv))) :
    RSs (cxOf (L2.CX P w) P w K mg base N_added "added" (defScope s_added) f cdv A outer s H E) (WF E) (defBody s_added) (tb_added) :=
  (rss_cons (rs_own 3 sc_added.nd (rn_rep (RE.p (re_lst (ra_cons re_int ra_nil))) (RE.p (re_op opd_add (rp_var 2) (RE.p re_int))))) (rss_cons (rs_for (passes_of rfl) (ri_zip (re_var 0) (re_var 1) T.b_zip) (rg_tup (rgs_cons (rg_name 4 sc_added.nd) (rgs_cons (rg_name 5 sc_added.nd) rgs_nil))) (rss_one (rs_for (passes_of rfl) (ri_range1 (RE.p (re_op opd_add (rp_var 2) (RE.p re_int))) T.b_range) (rg_name 6 sc_added.nd) (rss_one (rs_augO 3 opd_iadd (rp_var 6) (re_op opd_mul (rp_var 5) (RE.p (re_ix ixd_seq (rp_var 4) (rp_var 6))))))))) (rss_one (rs_ret (re_callTy cd_tuple T.b_tuple (rpa_cons (rp_var 3) rpa_nil))))))
/-! ### crossed -/
abbrev s_crossed : Stmt := topS 19
theorem sc_crossed : FnScope N_crossed ["row", "other", "place"] (defScope s_crossed) := ⟨rfl, rfl, rfl, by decide +kernel, rfl, by decide +kernel, by decide +kernel⟩
theorem der_crossed (T : Txt K mg a_is_whole a_common a_fraction a_plus a_times a_under a_along a_holds a_lies_in a_divisor_of a_lowest a_added a_crossed a_first_with a_reduced a_solution a_choices a_turned_rows a_made_whole a_shares_by a_ring_of a_empty_by a_corners a_way_out a_least_shares a_most a__law_cell_at a__law_stream a__law_number a__law_box a__law_room a_law) (D_lowest : FD P w K mg base 3 a_lowest 1 [] g_lowest)
    {f : Addr} {cdv : Value} {A : Around} {outer : List Env} {s : Shared} {H : Hp} {E : XK} (hr : Room 3 (A.deeper (envOfC "crossed" (defScope s_crossed) s.heap.objs.size f cdv))) :
    RSs (cxOf (L2.CX P w) P w K mg base N_crossed "crossed" (defScope s_crossed) f cdv A outer s H E) (WF E) (defBody s_crossed) (tb_crossed) :=
  (rss_one (rs_ret (re_call D_lowest (hr.mono (by decide)) T.f_lowest (takes_of rfl rfl rfl rfl) (ra_cons (re_callTy cd_tuple T.b_tuple (rpa_cons (RE.p (by exact (RN.e (rn_lc sc_crossed.nd (ri_zip (re_var 0) (re_var 1) T.b_zip) (blkOk_by (own := [("one", 3), ("two", 4)]) (N := N_crossed) (sc := (defScope s_crossed)) (by decide +kernel)) (fun _ _ _ _ _ => (rg_tup (rgs_cons (rg_name 3 sc_crossed.nd) (rgs_cons (rg_name 4 sc_crossed.nd) rgs_nil)))) (fun _ _ _ _ _ => rts_nil) (fun _ _ _ _ _ => (re_op opd_sub (RE.p (re_op opd_mul (rp_var 3) (RE.p (re_ix ixd_seq (rp_var 1) (rp_var 2))))) (RE.p (re_op opd_mul (rp_var 4) (RE.p (re_ix ixd_seq (rp_var 0) (rp_var 2))))))))))) rpa_nil)) ra_nil))))
/-! ### first_with -/
abbrev s_first_with : Stmt := topS 20
theorem sc_first_with : FnScope N_first_with ["rows", "at", "place"] (defScope s_first_with) := ⟨rfl, rfl, rfl, by decide +kernel, rfl, by decide +kernel, by decide +kernel⟩
theorem der_first_with (T : Txt K mg a_is_whole a_common a_fraction a_plus a_times a_under a_along a_holds a_lies_in a_divisor_of a_lowest a_added a_crossed a_first_with a_reduced a_solution a_choices a_turned_rows a_made_whole a_shares_by a_ring_of a_empty_by a_corners a_way_out a_least_shares a_most a__law_cell_at a__law_stream a__law_number a__law_box a__law_room a_law) 
    {f : Addr} {cdv : Value} {A : Around} {outer : List Env} {s : Shared} {H : Hp} {E : XK} (hr : Room 0 (A.deeper (envOfC "first_with" (defScope s_first_with) s.heap.objs.size f cdv))) :
    RSs (cxOf (L2.CX P w) P w K mg base N_first_with "first_with" (defScope s_first_with) f cdv A outer s H E) (WF E) (defBody s_first_with) (tb_first_with) :=
  (rss_cons (rs_for (passes_of rfl) (ri_range2 (rp_var 1) (RE.p (re_callB cd_len T.b_len (rpa_cons (rp_var 0) rpa_nil))) T.b_range) (rg_name 3 sc_first_with.nd) (rss_one (rs_if (rt_cmp (opd_ne hr.units) (RE.p (re_ix ixd_seq (RE.p (re_ix ixd_seq (rp_var 0) (rp_var 3))) (rp_var 2))) (RE.p re_int)) (rss_one (rs_ret (re_var 3))) rss_nil))) (rss_one (rs_ret re_non)))
/-! ### reduced -/
abbrev s_reduced : Stmt := topS 21
theorem sc_reduced : FnScope N_reduced ["rows", "many"] (defScope s_reduced) := ⟨rfl, rfl, rfl, by decide +kernel, rfl, by decide +kernel, by decide +kernel⟩
theorem der_reduced (T : Txt K mg a_is_whole a_common a_fraction a_plus a_times a_under a_along a_holds a_lies_in a_divisor_of a_lowest a_added a_crossed a_first_with a_reduced a_solution a_choices a_turned_rows a_made_whole a_shares_by a_ring_of a_empty_by a_corners a_way_out a_least_shares a_most a__law_cell_at a__law_stream a__law_number a__law_box a__law_room a_law) (D_lowest : FD P w K mg base 3 a_lowest 1 [] g_lowest) (D_crossed : FD P w K mg base 4 a_crossed 3 [] g_crossed) (D_first_with : FD P w K mg base 1 a_first_with 3 [] g_first_with)
    {f : Addr} {cdv : Value} {A : Around} {outer : List Env} {s : Shared} {H : Hp} {E : XK} (hr : Room 4 (A.deeper (envOfC "reduced" (defScope s_reduced) s.heap.objs.size f cdv))) :
    RSs (cxOf (L2.CX P w) P w K mg base N_reduced "reduced" (defScope s_reduced) f cdv A outer s H E) (WF E) (defBody s_reduced) (tb_reduced) :=
  (rss_cons (rs_ownLc 2 sc_reduced.nd (ri_seq (re_var 0)) (blkOk_by (own := [("row", 3)]) (N := N_reduced) (sc := (defScope s_reduced)) (by decide +kernel)) (fun _ _ _ _ _ => (rg_name 3 sc_reduced.nd)) (fun _ _ _ _ _ => rts_nil) (fun _ _ _ _ _ => (re_call D_lowest (hr.mono (by decide)) T.f_lowest takes0 (ra_cons (re_callTy cd_tuple T.b_tuple (rpa_cons (rp_var 3) rpa_nil)) ra_nil))) (sw_true rfl rfl rfl (by decide +kernel))) (rss_cons (rs_own 4 sc_reduced.nd (rn_lst ra_nil)) (rss_cons (rs_for (passes_of rfl) (ri_range1 (rp_var 1) T.b_range) (rg_name 5 sc_reduced.nd) (rss_cons (rs_set 6 sc_reduced.nd (re_callB cd_len T.b_len (rpa_cons (rp_var 4) rpa_nil))) (rss_cons (rs_set 7 sc_reduced.nd (re_callP D_first_with (hr.mono (by decide)) T.f_first_with (takes_of rfl rfl rfl rfl) (rpa_cons (rp_var 2) (rpa_cons (rp_var 6) (rpa_cons (rp_var 5) rpa_nil))))) (rss_cons (rs_if (rt_cmp opd_is (rp_var 7) (RE.p re_non)) (rss_one rs_continue) rss_nil) (rss_cons (rs_set 8 sc_reduced.nd (re_ix ixd_seq (rp_var 2) (rp_var 6))) (rss_cons (rs_put 2 (rp_var 6) (re_ix ixd_seq (rp_var 2) (rp_var 7))) (rss_cons (rs_put 2 (rp_var 7) (re_var 8)) (rss_cons (rs_for (passes_of rfl) (ri_range1 (RE.p (re_callB cd_len T.b_len (rpa_cons (rp_var 2) rpa_nil))) T.b_range) (rg_name 9 sc_reduced.nd) (rss_one (rs_if (RW.toT (rw_and (rt_cmp (opd_ne hr.units) (rp_var 9) (rp_var 6)) (rw_and1 (rt_cmp (opd_ne hr.units) (RE.p (re_ix ixd_seq (RE.p (re_ix ixd_seq (rp_var 2) (rp_var 9))) (rp_var 5))) (RE.p re_int))))) (rss_one (rs_put 2 (rp_var 9) (re_call D_crossed (hr.mono (by decide)) T.f_crossed (takes_of rfl rfl rfl rfl) (ra_cons (re_ix ixd_seq (rp_var 2) (rp_var 9)) (ra_cons (re_ix ixd_seq (rp_var 2) (rp_var 6)) (ra_cons (re_var 5) ra_nil)))))) rss_nil))) (rss_one (rs_app 4 (re_var 5))))))))))) (rss_frz 4 (rss_frz 2 (rss_one (rs_ret (re_tup (ra_cons (re_var 2) (ra_cons (re_var 4) ra_nil))))))))))
/-! ### solution -/
abbrev s_solution : Stmt := topS 22
theorem sc_solution : FnScope N_solution ["rows", "many"] (defScope s_solution) := ⟨rfl, rfl, rfl, by decide +kernel, rfl, by decide +kernel, by decide +kernel⟩
theorem der_solution (T : Txt K mg a_is_whole a_common a_fraction a_plus a_times a_under a_along a_holds a_lies_in a_divisor_of a_lowest a_added a_crossed a_first_with a_reduced a_solution a_choices a_turned_rows a_made_whole a_shares_by a_ring_of a_empty_by a_corners a_way_out a_least_shares a_most a__law_cell_at a__law_stream a__law_number a__law_box a__law_room a_law) (D_fraction : FD P w K mg base 2 a_fraction 2 [] g_fraction) (D_reduced : FD P w K mg base 5 a_reduced 2 [] g_reduced) (D_fraction_d : FD P w K mg base 2 a_fraction 2 [.int 1] g_fraction)
    {f : Addr} {cdv : Value} {A : Around} {outer : List Env} {s : Shared} {H : Hp} {E : XK} (hr : Room 5 (A.deeper (envOfC "solution" (defScope s_solution) s.heap.objs.size f cdv))) :
    RSs (cxOf (L2.CX P w) P w K mg base N_solution "solution" (defScope s_solution) f cdv A outer s H E) (WF E) (defBody s_solution) (tb_solution) :=
  (rss_cons (rs_asg (re_call D_reduced (hr.mono (by decide)) T.f_reduced (takes_of rfl rfl rfl rfl) (ra_cons (re_var 0) (ra_cons (re_var 1) ra_nil))) (rg_tup (rgs_cons (rg_name 2 sc_solution.nd) (rgs_cons (rg_name 3 sc_solution.nd) rgs_nil)))) (rss_cons (rs_for (passes_of rfl) (ri_seq (re_slice (rp_var 2) (ro_some (RE.p (re_callB cd_len T.b_len (rpa_cons (rp_var 3) rpa_nil)))) ro_none)) (rg_name 4 sc_solution.nd) (rss_one (rs_if (rt_cmp (opd_ne hr.units) (RE.p (re_ix ixd_seq (rp_var 4) (RE.p (re_neg (RE.p re_int))))) (RE.p re_int)) (rss_one (rs_ret re_non)) rss_nil))) (rss_cons (rs_own 5 sc_solution.nd (rn_rep (RE.p (re_lst (ra_cons (re_call D_fraction_d (hr.mono (by decide)) T.f_fraction (takes_of rfl rfl rfl rfl) (ra_cons re_int ra_nil)) ra_nil))) (rp_var 1))) (rss_cons (rs_for (passes_of rfl) (ri_range1 (RE.p (re_callB cd_len T.b_len (rpa_cons (rp_var 3) rpa_nil))) T.b_range) (rg_name 6 sc_solution.nd) (rss_one (rs_put 5 (RE.p (re_ix ixd_seq (rp_var 3) (rp_var 6))) (re_call D_fraction (hr.mono (by decide)) T.f_fraction (takes_of rfl rfl rfl rfl) (ra_cons (re_ix ixd_seq (RE.p (re_ix ixd_seq (rp_var 2) (rp_var 6))) (RE.p (re_neg (RE.p re_int)))) (ra_cons (re_ix ixd_seq (RE.p (re_ix ixd_seq (rp_var 2) (rp_var 6))) (RE.p (re_ix ixd_seq (rp_var 3) (rp_var 6)))) ra_nil)))))) (rss_frz 5 (rss_one (rs_ret (re_tup (ra_cons (re_var 5) (ra_cons (re_callB cd_len T.b_len (rpa_cons (rp_var 3) rpa_nil)) ra_nil))))))))))
/-! ### choices -/
abbrev s_choices : Stmt := topS 24
theorem sc_choices : FnScope N_choices ["many", "most"] (defScope s_choices) := ⟨rfl, rfl, rfl, by decide +kernel, rfl, by decide +kernel, by decide +kernel⟩
theorem der_choices (T : Txt K mg a_is_whole a_common a_fraction a_plus a_times a_under a_along a_holds a_lies_in a_divisor_of a_lowest a_added a_crossed a_first_with a_reduced a_solution a_choices a_turned_rows a_made_whole a_shares_by a_ring_of a_empty_by a_corners a_way_out a_least_shares a_most a__law_cell_at a__law_stream a__law_number a__law_box a__law_room a_law) 
    {f : Addr} {cdv : Value} {A : Around} {outer : List Env} {s : Shared} {H : Hp} {E : XK} (hr : Room 0 (A.deeper (envOfC "choices" (defScope s_choices) s.heap.objs.size f cdv))) :
    RSs (cxOf (L2.CX P w) P w K mg base N_choices "choices" (defScope s_choices) f cdv A outer s H E) (WF E) (defBody s_choices) (tb_choices) :=
  (rss_cons (rs_set 2 sc_choices.nd (re_lst (ra_cons (re_lst ra_nil) ra_nil))) (rss_cons (rs_for (passes_of rfl) (ri_range1 (rp_var 0) T.b_range) (rg_name 3 sc_choices.nd) (rss_one (rs_set 2 sc_choices.nd (re_op opd_add (rp_var 2) (RE.p (by exact (RN.e (rn_lc sc_choices.nd (ri_seq (re_var 2)) (blkOk_by (own := [("pick", 4)]) (N := N_choices) (sc := (defScope s_choices)) (by decide +kernel)) (fun _ _ _ _ _ => (rg_name 4 sc_choices.nd)) (fun _ _ _ _ _ => (rts_one (rt_cmp opd_lt (RE.p (re_callB cd_len T.b_len (rpa_cons (rp_var 4) rpa_nil))) (rp_var 1)))) (fun _ _ _ _ _ => (re_op opd_add (rp_var 4) (RE.p (re_lst (ra_cons (re_var 3) ra_nil))))))))))))) (rss_one (rs_ret (re_var 2)))))
/-! ### turned_rows -/
abbrev s_turned_rows : Stmt := topS 25
theorem sc_turned_rows : FnScope N_turned_rows ["room", "pick", "target"] (defScope s_turned_rows) := ⟨rfl, rfl, rfl, by decide +kernel, rfl, by decide +kernel, by decide +kernel⟩
theorem der_turned_rows (T : Txt K mg a_is_whole a_common a_fraction a_plus a_times a_under a_along a_holds a_lies_in a_divisor_of a_lowest a_added a_crossed a_first_with a_reduced a_solution a_choices a_turned_rows a_made_whole a_shares_by a_ring_of a_empty_by a_corners a_way_out a_least_shares a_most a__law_cell_at a__law_stream a__law_number a__law_box a__law_room a_law) 
    {f : Addr} {cdv : Value} {A : Around} {outer : List Env} {s : Shared} {H : Hp} {E : XK} (hr : Room 0 (A.deeper (envOfC "turned_rows" (defScope s_turned_rows) s.heap.objs.size f cdv))) :
    RSs (cxOf (L2.CX P w) P w K mg base N_turned_rows "turned_rows" (defScope s_turned_rows) f cdv A outer s H E) (WF E) (defBody s_turned_rows) (tb_turned_rows) :=
  (rss_one (rs_ret (by exact (RN.e (rn_lc sc_turned_rows.nd (ri_range1 (RE.p (re_op opd_sub (RE.p (re_callB cd_len T.b_len (rpa_cons (rp_var 2) rpa_nil))) (RE.p re_int))) T.b_range) (blkOk_by (own := [("place", 4)]) (N := N_turned_rows) (sc := (defScope s_turned_rows)) (by decide +kernel)) (fun _ _ _ _ _ => (rg_name 4 sc_turned_rows.nd)) (fun _ _ _ _ _ => rts_nil) (fun _ _ _ _ _ => (re_callTy cd_tuple T.b_tuple (rpa_cons (RE.p (re_op opd_add (RE.p (by exact (RN.e (rn_lc sc_turned_rows.nd (ri_seq (re_var 1)) (blkOk_by (own := [("k", 3)]) (N := N_turned_rows) (by rfl)) (fun _ _ _ _ _ => (rg_name 3 sc_turned_rows.nd)) (fun _ _ _ _ _ => rts_nil) (fun _ _ _ _ _ => (re_ix ixd_seq (RE.p (re_ix ixd_seq (rp_var 0) (rp_var 3))) (rp_var 4))))))) (RE.p (re_lst (ra_cons (re_ix ixd_seq (rp_var 2) (rp_var 4)) ra_nil))))) rpa_nil))))))))
/-! ### made_whole -/
abbrev s_made_whole : Stmt := topS 26
theorem sc_made_whole : FnScope N_made_whole ["parts", "pick", "many"] (defScope s_made_whole) := ⟨rfl, rfl, rfl, by decide +kernel, rfl, by decide +kernel, by decide +kernel⟩
theorem der_made_whole (T : Txt K mg a_is_whole a_common a_fraction a_plus a_times a_under a_along a_holds a_lies_in a_divisor_of a_lowest a_added a_crossed a_first_with a_reduced a_solution a_choices a_turned_rows a_made_whole a_shares_by a_ring_of a_empty_by a_corners a_way_out a_least_shares a_most a__law_cell_at a__law_stream a__law_number a__law_box a__law_room a_law) (D_common : FD P w K mg base 1 a_common 2 [] g_common)
    {f : Addr} {cdv : Value} {A : Around} {outer : List Env} {s : Shared} {H : Hp} {E : XK} (hr : Room 1 (A.deeper (envOfC "made_whole" (defScope s_made_whole) s.heap.objs.size f cdv))) :
    RSs (cxOf (L2.CX P w) P w K mg base N_made_whole "made_whole" (defScope s_made_whole) f cdv A outer s H E) (WF E) (defBody s_made_whole) (tb_made_whole) :=
  (rss_cons (rs_set 3 sc_made_whole.nd re_int) (rss_cons (rs_for (passes_of rfl) (ri_seq (re_var 0)) (rg_name 4 sc_made_whole.nd) (rss_one (rs_set 3 sc_made_whole.nd (re_op opd_div (RE.p (re_op opd_mul (rp_var 3) (RE.p (re_ix ixd_seq (rp_var 4) (RE.p re_int))))) (RE.p (re_call D_common (hr.mono (by decide)) T.f_common (takes_of rfl rfl rfl rfl) (ra_cons (re_var 3) (ra_cons (re_ix ixd_seq (rp_var 4) (RE.p re_int)) ra_nil)))))))) (rss_cons (rs_own 5 sc_made_whole.nd (rn_rep (RE.p (re_lst (ra_cons re_int ra_nil))) (rp_var 2))) (rss_cons (rs_for (passes_of rfl) (ri_range1 (RE.p (re_callB cd_len T.b_len (rpa_cons (rp_var 1) rpa_nil))) T.b_range) (rg_name 6 sc_made_whole.nd) (rss_one (rs_put 5 (RE.p (re_ix ixd_seq (rp_var 1) (rp_var 6))) (re_op opd_mul (RE.p (re_ix ixd_seq (RE.p (re_ix ixd_seq (rp_var 0) (rp_var 6))) (RE.p re_int))) (RE.p (re_op opd_div (rp_var 3) (RE.p (re_ix ixd_seq (RE.p (re_ix ixd_seq (rp_var 0) (rp_var 6))) (RE.p re_int))))))))) (rss_frz 5 (rss_one (rs_ret (re_tup (ra_cons (re_var 3) (ra_cons (re_var 5) ra_nil))))))))))
/-! ### shares_by -/
abbrev s_shares_by : Stmt := topS 27
theorem sc_shares_by : FnScope N_shares_by ["room", "pick", "target"] (defScope s_shares_by) := ⟨rfl, rfl, rfl, by decide +kernel, rfl, by decide +kernel, by decide +kernel⟩
theorem der_shares_by (T : Txt K mg a_is_whole a_common a_fraction a_plus a_times a_under a_along a_holds a_lies_in a_divisor_of a_lowest a_added a_crossed a_first_with a_reduced a_solution a_choices a_turned_rows a_made_whole a_shares_by a_ring_of a_empty_by a_corners a_way_out a_least_shares a_most a__law_cell_at a__law_stream a__law_number a__law_box a__law_room a_law) (D_solution : FD P w K mg base 6 a_solution 2 [] g_solution) (D_turned_rows : FD P w K mg base 1 a_turned_rows 3 [] g_turned_rows) (D_made_whole : FD P w K mg base 2 a_made_whole 3 [] g_made_whole)
    {f : Addr} {cdv : Value} {A : Around} {outer : List Env} {s : Shared} {H : Hp} {E : XK} (hr : Room 6 (A.deeper (envOfC "shares_by" (defScope s_shares_by) s.heap.objs.size f cdv))) :
    RSs (cxOf (L2.CX P w) P w K mg base N_shares_by "shares_by" (defScope s_shares_by) f cdv A outer s H E) (WF E) (defBody s_shares_by) (tb_shares_by) :=
  (rss_cons (rs_set 3 sc_shares_by.nd (re_call D_solution (hr.mono (by decide)) T.f_solution (takes_of rfl rfl rfl rfl) (ra_cons (re_call D_turned_rows (hr.mono (by decide)) T.f_turned_rows (takes_of rfl rfl rfl rfl) (ra_cons (re_var 0) (ra_cons (re_var 1) (ra_cons (re_var 2) ra_nil)))) (ra_cons (re_callB cd_len T.b_len (rpa_cons (rp_var 1) rpa_nil)) ra_nil)))) (rss_cons (rs_if (RW.toT (rw_or (rt_cmp opd_is (rp_var 3) (RE.p re_non)) (rw_or1 (rt_cmp opd_lt (RE.p (re_ix ixd_seq (rp_var 3) (RE.p re_int))) (RE.p (re_callB cd_len T.b_len (rpa_cons (rp_var 1) rpa_nil))))))) (rss_one (rs_ret re_non)) rss_nil) (rss_cons (rs_if (rt_cmp (opd_ne hr.units) (RE.p (by exact (RN.e (rn_lc sc_shares_by.nd (ri_seq (re_ix ixd_seq (rp_var 3) (RE.p re_int))) (blkOk_by (own := [("part", 4)]) (N := N_shares_by) (sc := (defScope s_shares_by)) (by decide +kernel)) (fun _ _ _ _ _ => (rg_name 4 sc_shares_by.nd)) (fun _ _ _ _ _ => (rts_one (rt_cmp opd_lt (RE.p (re_ix ixd_seq (rp_var 4) (RE.p re_int))) (RE.p re_int)))) (fun _ _ _ _ _ => (re_var 4)))))) (RE.p (re_lst ra_nil))) (rss_one (rs_ret re_non)) rss_nil) (rss_one (rs_ret (re_call D_made_whole (hr.mono (by decide)) T.f_made_whole (takes_of rfl rfl rfl rfl) (ra_cons (re_ix ixd_seq (rp_var 3) (RE.p re_int)) (ra_cons (re_var 1) (ra_cons (re_callB cd_len T.b_len (rpa_cons (rp_var 0) rpa_nil)) ra_nil)))))))))
/-! ### ring_of -/
abbrev s_ring_of : Stmt := topS 28
theorem sc_ring_of : FnScope N_ring_of ["room", "pick", "many"] (defScope s_ring_of) := ⟨rfl, rfl, rfl, by decide +kernel, rfl, by decide +kernel, by decide +kernel⟩
theorem der_ring_of (T : Txt K mg a_is_whole a_common a_fraction a_plus a_times a_under a_along a_holds a_lies_in a_divisor_of a_lowest a_added a_crossed a_first_with a_reduced a_solution a_choices a_turned_rows a_made_whole a_shares_by a_ring_of a_empty_by a_corners a_way_out a_least_shares a_most a__law_cell_at a__law_stream a__law_number a__law_box a__law_room a_law) (D_fraction : FD P w K mg base 2 a_fraction 2 [] g_fraction) (D_reduced : FD P w K mg base 5 a_reduced 2 [] g_reduced) (D_turned_rows : FD P w K mg base 1 a_turned_rows 3 [] g_turned_rows) (D_made_whole : FD P w K mg base 2 a_made_whole 3 [] g_made_whole) (D_fraction_d : FD P w K mg base 2 a_fraction 2 [.int 1] g_fraction)
    {f : Addr} {cdv : Value} {A : Around} {outer : List Env} {s : Shared} {H : Hp} {E : XK} (hr : Room 5 (A.deeper (envOfC "ring_of" (defScope s_ring_of) s.heap.objs.size f cdv))) :
    RSs (cxOf (L2.CX P w) P w K mg base N_ring_of "ring_of" (defScope s_ring_of) f cdv A outer s H E) (WF E) (defBody s_ring_of) (tb_ring_of) :=
  (rss_cons (rs_asg (re_call D_reduced (hr.mono (by decide)) T.f_reduced (takes_of rfl rfl rfl rfl) (ra_cons (re_call D_turned_rows (hr.mono (by decide)) T.f_turned_rows (takes_of rfl rfl rfl rfl) (ra_cons (re_var 0) (ra_cons (re_var 1) (ra_cons (re_op opd_mulB (RE.p (re_tup (ra_cons re_int ra_nil))) (RE.p (re_op opd_add (rp_var 2) (RE.p re_int)))) ra_nil)))) (ra_cons (re_callB cd_len T.b_len (rpa_cons (rp_var 1) rpa_nil)) ra_nil))) (rg_tup (rgs_cons (rg_name 3 sc_ring_of.nd) (rgs_cons (rg_name 4 sc_ring_of.nd) rgs_nil)))) (rss_cons (rs_if (rt_cmp (opd_ne hr.units) (RE.p (re_callB cd_len T.b_len (rpa_cons (rp_var 4) rpa_nil))) (RE.p (re_op opd_sub (RE.p (re_callB cd_len T.b_len (rpa_cons (rp_var 1) rpa_nil))) (RE.p re_int)))) (rss_one (rs_ret re_non)) rss_nil) (rss_cons (rs_set 5 sc_ring_of.nd (re_ix ixd_seq (RE.p (by exact (RN.e (rn_lc sc_ring_of.nd (ri_range1 (RE.p (re_callB cd_len T.b_len (rpa_cons (rp_var 1) rpa_nil))) T.b_range) (blkOk_by (own := [("k", 6)]) (N := N_ring_of) (sc := (defScope s_ring_of)) (by decide +kernel)) (fun _ _ _ _ _ => (rg_name 6 sc_ring_of.nd)) (fun _ _ _ _ _ => (rts_one (rt_cmp opd_notin (rp_var 6) (rp_var 4)))) (fun _ _ _ _ _ => (re_var 6)))))) (RE.p re_int))) (rss_cons (rs_own 7 sc_ring_of.nd (rn_rep (RE.p (re_lst (ra_cons (re_call D_fraction_d (hr.mono (by decide)) T.f_fraction (takes_of rfl rfl rfl rfl) (ra_cons re_int ra_nil)) ra_nil))) (RE.p (re_callB cd_len T.b_len (rpa_cons (rp_var 1) rpa_nil))))) (rss_cons (rs_for (passes_of rfl) (ri_range1 (RE.p (re_callB cd_len T.b_len (rpa_cons (rp_var 4) rpa_nil))) T.b_range) (rg_name 6 sc_ring_of.nd) (rss_one (rs_put 7 (RE.p (re_ix ixd_seq (rp_var 4) (rp_var 6))) (re_call D_fraction (hr.mono (by decide)) T.f_fraction (takes_of rfl rfl rfl rfl) (ra_cons (re_op opd_sub (RE.p re_int) (RE.p (re_ix ixd_seq (RE.p (re_ix ixd_seq (rp_var 3) (rp_var 6))) (rp_var 5)))) (ra_cons (re_ix ixd_seq (RE.p (re_ix ixd_seq (rp_var 3) (rp_var 6))) (RE.p (re_ix ixd_seq (rp_var 4) (rp_var 6)))) ra_nil)))))) (rss_frz 7 (rss_cons (rs_if (rt_cmp (opd_ne hr.units) (RE.p (by exact (RN.e (rn_lc sc_ring_of.nd (ri_seq (re_var 7)) (blkOk_by (own := [("part", 8)]) (N := N_ring_of) (sc := (defScope s_ring_of)) (by decide +kernel)) (fun _ _ _ _ _ => (rg_name 8 sc_ring_of.nd)) (fun _ _ _ _ _ => (rts_one (rt_cmp opd_le (RE.p (re_ix ixd_seq (rp_var 8) (RE.p re_int))) (RE.p re_int)))) (fun _ _ _ _ _ => (re_var 8)))))) (RE.p (re_lst ra_nil))) (rss_one (rs_ret re_non)) rss_nil) (rss_one (rs_ret (re_ix ixd_seq (RE.p (re_call D_made_whole (hr.mono (by decide)) T.f_made_whole (takes_of rfl rfl rfl rfl) (ra_cons (re_var 7) (ra_cons (re_var 1) (ra_cons (re_callB cd_len T.b_len (rpa_cons (rp_var 0) rpa_nil)) ra_nil))))) (RE.p re_int)))))))))))
/-! ### empty_by -/
abbrev s_empty_by : Stmt := topS 29
theorem sc_empty_by : FnScope N_empty_by ["room", "many"] (defScope s_empty_by) := ⟨rfl, rfl, rfl, by decide +kernel, rfl, by decide +kernel, by decide +kernel⟩
theorem der_empty_by (T : Txt K mg a_is_whole a_common a_fraction a_plus a_times a_under a_along a_holds a_lies_in a_divisor_of a_lowest a_added a_crossed a_first_with a_reduced a_solution a_choices a_turned_rows a_made_whole a_shares_by a_ring_of a_empty_by a_corners a_way_out a_least_shares a_most a__law_cell_at a__law_stream a__law_number a__law_box a__law_room a_law) (D_added : FD P w K mg base 1 a_added 3 [] g_added) (D_choices : FD P w K mg base 1 a_choices 2 [] g_choices) (D_ring_of : FD P w K mg base 6 a_ring_of 3 [] g_ring_of)
    {f : Addr} {cdv : Value} {A : Around} {outer : List Env} {s : Shared} {H : Hp} {E : XK} (hr : Room 6 (A.deeper (envOfC "empty_by" (defScope s_empty_by) s.heap.objs.size f cdv))) :
    RSs (cxOf (L2.CX P w) P w K mg base N_empty_by "empty_by" (defScope s_empty_by) f cdv A outer s H E) (WF E) (defBody s_empty_by) (tb_empty_by) :=
  (rss_cons (rs_for (passes_of rfl) (ri_seq (re_slice (RE.p (re_call D_choices (hr.mono (by decide)) T.f_choices (takes_of rfl rfl rfl rfl) (ra_cons (re_callB cd_len T.b_len (rpa_cons (rp_var 0) rpa_nil)) (ra_cons (re_op opd_add (rp_var 1) (RE.p re_int)) ra_nil)))) (ro_some (RE.p re_int)) ro_none)) (rg_name 2 sc_empty_by.nd) (rss_cons (rs_set 3 sc_empty_by.nd (re_call D_ring_of (hr.mono (by decide)) T.f_ring_of (takes_of rfl rfl rfl rfl) (ra_cons (re_var 0) (ra_cons (re_var 2) (ra_cons (re_var 1) ra_nil))))) (rss_one (rs_if (RW.toT (rw_and (rt_cmp opd_isnot (rp_var 3) (RE.p re_non)) (rw_and1 (rt_cmp opd_lt (RE.p (re_ix ixd_seq (RE.p (re_call D_added (hr.mono (by decide)) T.f_added (takes_of rfl rfl rfl rfl) (ra_cons (re_var 0) (ra_cons (re_var 3) (ra_cons (re_var 1) ra_nil))))) (RE.p (re_neg (RE.p re_int))))) (RE.p re_int))))) (rss_one (rs_ret (re_tup (ra_cons re_int (ra_cons (re_var 3) ra_nil))))) rss_nil)))) (rss_one (rs_ret re_non)))
/-! ### corners -/
abbrev s_corners : Stmt := topS 30
theorem sc_corners : FnScope N_corners ["room", "many"] (defScope s_corners) := ⟨rfl, rfl, rfl, by decide +kernel, rfl, by decide +kernel, by decide +kernel⟩
theorem der_corners (T : Txt K mg a_is_whole a_common a_fraction a_plus a_times a_under a_along a_holds a_lies_in a_divisor_of a_lowest a_added a_crossed a_first_with a_reduced a_solution a_choices a_turned_rows a_made_whole a_shares_by a_ring_of a_empty_by a_corners a_way_out a_least_shares a_most a__law_cell_at a__law_stream a__law_number a__law_box a__law_room a_law) (D_lies_in : FD P w K mg base 6 a_lies_in 2 [] g_lies_in) (D_reduced : FD P w K mg base 5 a_reduced 2 [] g_reduced) (D_solution : FD P w K mg base 6 a_solution 2 [] g_solution) (D_choices : FD P w K mg base 1 a_choices 2 [] g_choices)
    {f : Addr} {cdv : Value} {A : Around} {outer : List Env} {s : Shared} {H : Hp} {E : XK} (hr : Room 6 (A.deeper (envOfC "corners" (defScope s_corners) s.heap.objs.size f cdv))) :
    RSs (cxOf (L2.CX P w) P w K mg base N_corners "corners" (defScope s_corners) f cdv A outer s H E) (WF E) (defBody s_corners) (tb_corners) :=
  (rss_cons (rs_set 2 sc_corners.nd (re_callB cd_len T.b_len (rpa_cons (RE.p (re_ix ixd_seq (RE.p (re_call D_reduced (hr.mono (by decide)) T.f_reduced (takes_of rfl rfl rfl rfl) (ra_cons (re_var 0) (ra_cons (re_var 1) ra_nil)))) (RE.p re_int))) rpa_nil))) (rss_cons (rs_own 3 sc_corners.nd (rn_lst ra_nil)) (rss_cons (rs_for (passes_of rfl) (ri_seq (re_call D_choices (hr.mono (by decide)) T.f_choices (takes_of rfl rfl rfl rfl) (ra_cons (re_callB cd_len T.b_len (rpa_cons (rp_var 0) rpa_nil)) (ra_cons (re_var 2) ra_nil)))) (rg_name 4 sc_corners.nd) (rss_one (rs_if (rt_cmp (opd_eq hr.units) (RE.p (re_callB cd_len T.b_len (rpa_cons (rp_var 4) rpa_nil))) (rp_var 2)) (rss_cons (rs_set 5 sc_corners.nd (re_call D_solution (hr.mono (by decide)) T.f_solution (takes_of rfl rfl rfl rfl) (ra_cons (by exact (RN.e (rn_lc sc_corners.nd (ri_seq (re_var 4)) (blkOk_by (own := [("k", 6)]) (N := N_corners) (sc := (defScope s_corners)) (by decide +kernel)) (fun _ _ _ _ _ => (rg_name 6 sc_corners.nd)) (fun _ _ _ _ _ => rts_nil) (fun _ _ _ _ _ => (re_ix ixd_seq (rp_var 0) (rp_var 6)))))) (ra_cons (re_var 1) ra_nil)))) (rss_one (rs_if (RW.toT (rw_and (rt_cmp opd_isnot (rp_var 5) (RE.p re_non)) (rw_and (rt_cmp (opd_eq hr.units) (RE.p (re_ix ixd_seq (rp_var 5) (RE.p re_int))) (rp_var 2)) (rw_and1 (rt_val (RE.p (re_call D_lies_in (hr.mono (by decide)) T.f_lies_in (takes_of rfl rfl rfl rfl) (ra_cons (re_var 0) (ra_cons (re_ix ixd_seq (rp_var 5) (RE.p re_int)) ra_nil))))))))) (rss_one (rs_app 3 (re_ix ixd_seq (rp_var 5) (RE.p re_int)))) rss_nil))) rss_nil))) (rss_frz 3 (rss_one (rs_ret (re_var 3)))))))
/-! ### way_out -/
abbrev s_way_out : Stmt := topS 31
theorem sc_way_out : FnScope N_way_out ["room", "row", "many"] (defScope s_way_out) := ⟨rfl, rfl, rfl, by decide +kernel, rfl, by decide +kernel, by decide +kernel⟩
theorem der_way_out (T : Txt K mg a_is_whole a_common a_fraction a_plus a_times a_under a_along a_holds a_lies_in a_divisor_of a_lowest a_added a_crossed a_first_with a_reduced a_solution a_choices a_turned_rows a_made_whole a_shares_by a_ring_of a_empty_by a_corners a_way_out a_least_shares a_most a__law_cell_at a__law_stream a__law_number a__law_box a__law_room a_law) (D_along : FD P w K mg base 4 a_along 2 [] g_along) (D_made_whole : FD P w K mg base 2 a_made_whole 3 [] g_made_whole) (D_corners : FD P w K mg base 7 a_corners 2 [] g_corners)
    {f : Addr} {cdv : Value} {A : Around} {outer : List Env} {s : Shared} {H : Hp} {E : XK} (hr : Room 7 (A.deeper (envOfC "way_out" (defScope s_way_out) s.heap.objs.size f cdv))) :
    RSs (cxOf (L2.CX P w) P w K mg base N_way_out "way_out" (defScope s_way_out) f cdv A outer s H E) (WF E) (defBody s_way_out) (tb_way_out) :=
  (rss_cons (rs_set 3 sc_way_out.nd (re_op opd_add (RE.p (re_slice (rp_var 1) ro_none (ro_some (RE.p (re_neg (RE.p re_int)))))) (RE.p (re_tup (ra_cons re_int ra_nil))))) (rss_cons (rs_set 4 sc_way_out.nd (re_op opd_add (RE.p (by exact (RN.e (rn_lc sc_way_out.nd (ri_seq (re_var 0)) (blkOk_by (own := [("other", 5)]) (N := N_way_out) (sc := (defScope s_way_out)) (by decide +kernel)) (fun _ _ _ _ _ => (rg_name 5 sc_way_out.nd)) (fun _ _ _ _ _ => rts_nil) (fun _ _ _ _ _ => (re_op opd_add (RE.p (re_slice (rp_var 5) ro_none (ro_some (RE.p (re_neg (RE.p re_int)))))) (RE.p (re_tup (ra_cons re_int ra_nil))))))))) (RE.p (re_lst (ra_cons (re_var 3) ra_nil))))) (rss_cons (rs_for (passes_of rfl) (ri_seq (re_call D_corners (hr.mono (by decide)) T.f_corners (takes_of rfl rfl rfl rfl) (ra_cons (re_var 4) (ra_cons (re_var 2) ra_nil)))) (rg_name 6 sc_way_out.nd) (rss_one (rs_if (rt_cmp (opd_eq hr.units) (RE.p (re_call D_along (hr.mono (by decide)) T.f_along (takes_of rfl rfl rfl rfl) (ra_cons (re_var 1) (ra_cons (re_var 6) ra_nil)))) (RE.p (re_tup (ra_cons re_int (ra_cons re_int ra_nil))))) (rss_one (rs_ret (re_ix ixd_seq (RE.p (re_call D_made_whole (hr.mono (by decide)) T.f_made_whole (takes_of rfl rfl rfl rfl) (ra_cons (re_var 6) (ra_cons (RN.e (rn_listRg T.b_list T.b_range (rp_var 2))) (ra_cons (re_var 2) ra_nil))))) (RE.p re_int)))) rss_nil))) (rss_one (rs_ret (re_op opd_mul (RE.p (re_lst (ra_cons re_int ra_nil))) (rp_var 2)))))))
/-! ### least_shares -/
abbrev s_least_shares : Stmt := topS 32
theorem sc_least_shares : FnScope N_least_shares ["room", "row", "many"] (defScope s_least_shares) := ⟨rfl, rfl, rfl, by decide +kernel, rfl, by decide +kernel, by decide +kernel⟩
theorem der_least_shares (T : Txt K mg a_is_whole a_common a_fraction a_plus a_times a_under a_along a_holds a_lies_in a_divisor_of a_lowest a_added a_crossed a_first_with a_reduced a_solution a_choices a_turned_rows a_made_whole a_shares_by a_ring_of a_empty_by a_corners a_way_out a_least_shares a_most a__law_cell_at a__law_stream a__law_number a__law_box a__law_room a_law) (D_fraction : FD P w K mg base 2 a_fraction 2 [] g_fraction) (D_under : FD P w K mg base 1 a_under 2 [] g_under) (D_added : FD P w K mg base 1 a_added 3 [] g_added) (D_choices : FD P w K mg base 1 a_choices 2 [] g_choices) (D_shares_by : FD P w K mg base 7 a_shares_by 3 [] g_shares_by)
    {f : Addr} {cdv : Value} {A : Around} {outer : List Env} {s : Shared} {H : Hp} {E : XK} (hr : Room 7 (A.deeper (envOfC "least_shares" (defScope s_least_shares) s.heap.objs.size f cdv))) :
    RSs (cxOf (L2.CX P w) P w K mg base N_least_shares "least_shares" (defScope s_least_shares) f cdv A outer s H E) (WF E) (defBody s_least_shares) (tb_least_shares) :=
  (rss_cons (rs_set 3 sc_least_shares.nd re_non) (rss_cons (rs_for (passes_of rfl) (ri_seq (re_call D_choices (hr.mono (by decide)) T.f_choices (takes_of rfl rfl rfl rfl) (ra_cons (re_callB cd_len T.b_len (rpa_cons (rp_var 0) rpa_nil)) (ra_cons (re_var 2) ra_nil)))) (rg_name 4 sc_least_shares.nd) (rss_cons (rs_set 5 sc_least_shares.nd (re_call D_shares_by (hr.mono (by decide)) T.f_shares_by (takes_of rfl rfl rfl rfl) (ra_cons (re_var 0) (ra_cons (re_var 4) (ra_cons (re_var 1) ra_nil))))) (rss_one (rs_if (rt_cmp opd_isnot (rp_var 5) (RE.p re_non)) (rss_cons (rs_set 6 sc_least_shares.nd (re_call D_fraction (hr.mono (by decide)) T.f_fraction (takes_of rfl rfl rfl rfl) (ra_cons (re_ix ixd_seq (RE.p (re_call D_added (hr.mono (by decide)) T.f_added (takes_of rfl rfl rfl rfl) (ra_cons (re_var 0) (ra_cons (re_ix ixd_seq (rp_var 5) (RE.p re_int)) (ra_cons (re_var 2) ra_nil))))) (RE.p (re_neg (RE.p re_int)))) (ra_cons (re_ix ixd_seq (rp_var 5) (RE.p re_int)) ra_nil)))) (rss_one (rs_if (RW.toT (rw_or (rt_cmp opd_is (rp_var 3) (RE.p re_non)) (rw_or1 (rt_val (RE.p (re_call D_under (hr.mono (by decide)) T.f_under (takes_of rfl rfl rfl rfl) (ra_cons (re_var 6) (ra_cons (re_ix ixd_seq (rp_var 3) (RE.p re_int)) ra_nil)))))))) (rss_one (rs_set 3 sc_least_shares.nd (re_tup (ra_cons (re_var 6) (ra_cons (re_var 5) ra_nil))))) rss_nil))) rss_nil)))) (rss_one (rs_ret (re_var 3)))))
/-! ### most -/
abbrev s_most : Stmt := topS 33
theorem sc_most : FnScope N_most ["room", "row"] (defScope s_most) := ⟨rfl, rfl, rfl, by decide +kernel, rfl, by decide +kernel, by decide +kernel⟩
theorem der_most (T : Txt K mg a_is_whole a_common a_fraction a_plus a_times a_under a_along a_holds a_lies_in a_divisor_of a_lowest a_added a_crossed a_first_with a_reduced a_solution a_choices a_turned_rows a_made_whole a_shares_by a_ring_of a_empty_by a_corners a_way_out a_least_shares a_most a__law_cell_at a__law_stream a__law_number a__law_box a__law_room a_law) (D_along : FD P w K mg base 4 a_along 2 [] g_along) (D_empty_by : FD P w K mg base 7 a_empty_by 2 [] g_empty_by) (D_corners : FD P w K mg base 7 a_corners 2 [] g_corners) (D_way_out : FD P w K mg base 8 a_way_out 3 [] g_way_out) (D_least_shares : FD P w K mg base 8 a_least_shares 3 [] g_least_shares)
    {f : Addr} {cdv : Value} {A : Around} {outer : List Env} {s : Shared} {H : Hp} {E : XK} (hr : Room 8 (A.deeper (envOfC "most" (defScope s_most) s.heap.objs.size f cdv))) :
    RSs (cxOf (L2.CX P w) P w K mg base N_most "most" (defScope s_most) f cdv A outer s H E) (WF E) (defBody s_most) (tb_most) :=
  (rss_cons (rs_set 2 sc_most.nd (re_op opd_sub (RE.p (re_callB cd_len T.b_len (rpa_cons (rp_var 1) rpa_nil))) (RE.p re_int))) (rss_cons (rs_set 3 sc_most.nd (re_call D_empty_by (hr.mono (by decide)) T.f_empty_by (takes_of rfl rfl rfl rfl) (ra_cons (re_var 0) (ra_cons (re_var 2) ra_nil)))) (rss_cons (rs_if (rt_cmp opd_isnot (rp_var 3) (RE.p re_non)) (rss_one (rs_ret (re_tup (ra_cons re_str (ra_cons (re_var 3) ra_nil))))) rss_nil) (rss_cons (rs_set 4 sc_most.nd (re_call D_corners (hr.mono (by decide)) T.f_corners (takes_of rfl rfl rfl rfl) (ra_cons (re_var 0) (ra_cons (re_var 2) ra_nil)))) (rss_cons (rs_set 5 sc_most.nd (re_call D_least_shares (hr.mono (by decide)) T.f_least_shares (takes_of rfl rfl rfl rfl) (ra_cons (re_var 0) (ra_cons (re_var 1) (ra_cons (re_var 2) ra_nil))))) (rss_cons (rs_if (rt_cmp opd_is (rp_var 5) (RE.p re_non)) (rss_one (rs_ret (re_tup (ra_cons re_str (ra_cons (re_ix ixd_seq (rp_var 4) (RE.p re_int)) (ra_cons (re_call D_way_out (hr.mono (by decide)) T.f_way_out (takes_of rfl rfl rfl rfl) (ra_cons (re_var 0) (ra_cons (re_var 1) (ra_cons (re_var 2) ra_nil)))) ra_nil)))))) rss_nil) (rss_cons (rs_setLc 4 sc_most.nd (ri_seq (re_var 4)) (blkOk_by (own := [("point", 6)]) (N := N_most) (sc := (defScope s_most)) (by decide +kernel)) (fun _ _ _ _ _ => (rg_name 6 sc_most.nd)) (fun _ _ _ _ _ => (rts_one (rt_cmp (opd_eq hr.units) (RE.p (re_call D_along (hr.mono (by decide)) T.f_along takes0 (ra_cons (re_var 1) (ra_cons (re_var 6) ra_nil)))) (RE.p (re_ix ixd_seq (rp_var 5) (RE.p re_int)))))) (fun _ _ _ _ _ => (re_var 6)) (sw_true rfl rfl rfl (by decide +kernel))) (rss_one (rs_ret (re_tup (ra_cons re_str (ra_cons (re_ix ixd_seq (rp_var 5) (RE.p re_int)) (ra_cons (re_ix ixd_seq (rp_var 5) (RE.p re_int)) (ra_cons (re_ix ixd_seq (rp_var 4) (RE.p re_int)) ra_nil))))))))))))))
/-! ### _law_cell_at -/
abbrev s__law_cell_at : Stmt := topS 35
theorem sc__law_cell_at : FnScope N__law_cell_at ["_law_script", "_law_k"] (defScope s__law_cell_at) := ⟨rfl, rfl, rfl, by decide +kernel, rfl, by decide +kernel, by decide +kernel⟩
theorem der__law_cell_at (T : Txt K mg a_is_whole a_common a_fraction a_plus a_times a_under a_along a_holds a_lies_in a_divisor_of a_lowest a_added a_crossed a_first_with a_reduced a_solution a_choices a_turned_rows a_made_whole a_shares_by a_ring_of a_empty_by a_corners a_way_out a_least_shares a_most a__law_cell_at a__law_stream a__law_number a__law_box a__law_room a_law) 
    {f : Addr} {cdv : Value} {A : Around} {outer : List Env} {s : Shared} {H : Hp} {E : XK} (hr : Room 0 (A.deeper (envOfC "_law_cell_at" (defScope s__law_cell_at) s.heap.objs.size f cdv))) :
    RSs (cxOf (L2.CX P w) P w K mg base N__law_cell_at "_law_cell_at" (defScope s__law_cell_at) f cdv A outer s H E) (WF E) (defBody s__law_cell_at) (tb__law_cell_at) :=
  (rss_cons (rs_if (rt_cmp opd_lt (rp_var 1) (RE.p (re_callB cd_len T.b_len (rpa_cons (rp_var 0) rpa_nil)))) (rss_one (rs_ret (re_ix ixd_seq (rp_var 0) (rp_var 1)))) rss_nil) (rss_one (rs_ret re_int)))
/-! ### _law_stream -/
abbrev s__law_stream : Stmt := topS 36
theorem sc__law_stream : FnScope N__law_stream ["_law_cell", "_law_many"] (defScope s__law_stream) := ⟨rfl, rfl, rfl, by decide +kernel, rfl, by decide +kernel, by decide +kernel⟩
theorem der__law_stream (T : Txt K mg a_is_whole a_common a_fraction a_plus a_times a_under a_along a_holds a_lies_in a_divisor_of a_lowest a_added a_crossed a_first_with a_reduced a_solution a_choices a_turned_rows a_made_whole a_shares_by a_ring_of a_empty_by a_corners a_way_out a_least_shares a_most a__law_cell_at a__law_stream a__law_number a__law_box a__law_room a_law) 
    {f : Addr} {cdv : Value} {A : Around} {outer : List Env} {s : Shared} {H : Hp} {E : XK} (hr : Room 0 (A.deeper (envOfC "_law_stream" (defScope s__law_stream) s.heap.objs.size f cdv))) :
    RSs (cxOf (L2.CX P w) P w K mg base N__law_stream "_law_stream" (defScope s__law_stream) f cdv A outer s H E) (WF E) (defBody s__law_stream) (tb__law_stream) :=
  (rss_cons (rs_own 2 sc__law_stream.nd (rn_lst ra_nil)) (rss_cons (rs_if (rt_cmp opd_ge (rp_var 0) (RE.p (re_op opd_pow (RE.p re_int) (RE.p re_int)))) (rss_cons (rs_set 3 sc__law_stream.nd (re_op opd_sub (rp_var 0) (RE.p (re_op opd_pow (RE.p re_int) (RE.p re_int))))) (rss_cons (rs_for (passes_of rfl) (ri_range1 (rp_var 1) T.b_range) (rg_name 4 sc__law_stream.nd) (rss_cons (rs_app 2 (re_op opd_mod (rp_var 3) (RE.p (re_op opd_pow (RE.p re_int) (RE.p re_int))))) (rss_one (rs_set 3 sc__law_stream.nd (re_op opd_div (rp_var 3) (RE.p (re_op opd_pow (RE.p re_int) (RE.p re_int)))))))) (rss_frz 2 (rss_one (rs_ret (re_var 2)))))) rss_nil) (rss_cons (rs_set 5 sc__law_stream.nd (re_op opd_add (RE.p (re_op opd_mod (rp_var 0) (RE.p (re_op opd_add (RE.p (re_op opd_pow (RE.p re_int) (RE.p re_int))) (RE.p re_int))))) (RE.p re_int))) (rss_cons (rs_for (passes_of rfl) (ri_range1 (RE.p (re_op opd_add (rp_var 1) (RE.p re_int))) T.b_range) (rg_name 4 sc__law_stream.nd) (rss_cons (rs_set 5 sc__law_stream.nd (re_op opd_mod (RE.p (re_op opd_add (RE.p (re_op opd_add (RE.p (re_op opd_mul (rp_var 5) (rp_var 5))) (RE.p (re_op opd_mul (RE.p re_int) (rp_var 5))))) (rp_var 4))) (RE.p (re_op opd_add (RE.p (re_op opd_pow (RE.p re_int) (RE.p re_int))) (RE.p re_int))))) (rss_one (rs_app 2 (re_var 5))))) (rss_one (rs_ret (re_slice (rp_var 2) (ro_some (RE.p re_int)) ro_none)))))))
/-! ### _law_number -/
abbrev s__law_number : Stmt := topS 37
abbrev N__law_number : List Str := N_num9
abbrev g__law_number : DF := g_num9
abbrev tb__law_number  : DS := tb_num9
theorem rd__law_number  (ds : List D) (Q E : EQ) (h1 : ds.length = 1) (h2 : g__law_number ds Q E) : tb__law_number (dE Q E) (startD N__law_number ds) := rd_num9 ds Q E h1 h2
theorem sc__law_number : FnScope N__law_number ["_law_x"] (defScope s__law_number) := ⟨rfl, rfl, rfl, by decide +kernel, rfl, by decide +kernel, by decide +kernel⟩
theorem der__law_number (T : Txt K mg a_is_whole a_common a_fraction a_plus a_times a_under a_along a_holds a_lies_in a_divisor_of a_lowest a_added a_crossed a_first_with a_reduced a_solution a_choices a_turned_rows a_made_whole a_shares_by a_ring_of a_empty_by a_corners a_way_out a_least_shares a_most a__law_cell_at a__law_stream a__law_number a__law_box a__law_room a_law) 
    {f : Addr} {cdv : Value} {A : Around} {outer : List Env} {s : Shared} {H : Hp} {E : XK} (hr : Room 0 (A.deeper (envOfC "_law_number" (defScope s__law_number) s.heap.objs.size f cdv))) :
    RSs (cxOf (L2.CX P w) P w K mg base N__law_number "_law_number" (defScope s__law_number) f cdv A outer s H E) (WF E) (defBody s__law_number) (tb__law_number) :=
  (rss_one (rs_ret (re_op opd_mul (RE.p (re_op opd_mod (RE.p (re_op opd_div (rp_var 0) (RE.p re_int))) (RE.p (re_ix ixd_seq (RE.p (re_lst (ra_cons re_int (ra_cons re_int (ra_cons re_int (ra_cons (re_op opd_pow (RE.p re_int) (RE.p re_int)) ra_nil)))))) (RE.p (re_op opd_mod (rp_var 0) (RE.p re_int))))))) (RE.p (re_op opd_sub (RE.p re_int) (RE.p (re_op opd_mul (RE.p (re_op opd_mod (RE.p (re_op opd_div (rp_var 0) (RE.p re_int))) (RE.p re_int))) (RE.p re_int))))))))
/-! ### _law_box -/
abbrev s__law_box : Stmt := topS 38
abbrev N__law_box : List Str := ["_law_cell", "_law_many", "_law_box_here", "_law_k", "_law_xs", "_law_low", "_law_high"]
theorem sc__law_box : FnScope N__law_box ["_law_cell", "_law_many"] (defScope s__law_box) := ⟨rfl, rfl, rfl, by decide +kernel, rfl, by decide +kernel, by decide +kernel⟩
def tb__law_box  : DS :=
  (dSq (dOwn 2 (dLstN dNil)) (dSq (dFor (dRng1 (dVarP 1)) (gNm 3) (dSq (dSet 4 (dCall 2 [] g__law_stream (dCons (dOp kAdd (dVarP 0) (dOp kMul (dC (.int 7)) (dVarP 3))) (dCons (dC (.int 3)) dNil)))) (dSq (dSet 5 (dCall 1 [] g__law_number (dCons (dOp kIx (dVarP 4) (dC (.int 0))) dNil))) (dSq (dSet 6 (dOp kSub (dOp kAdd (dVarP 5) (dOp kMod (dOp kDiv (dOp kIx (dVarP 4) (dC (.int 1))) (dC (.int 4))) (dOp kIx (dLst (dCons (dC (.int 1)) (dCons (dC (.int 9)) (dCons (dOp kPow (dC (.int 10)) (dC (.int 12))) (dCons (dC (.int 5)) dNil))))) (dOp kMod (dOp kIx (dVarP 4) (dC (.int 1))) (dC (.int 4)))))) (dOp kDiv (dOp kMod (dOp kIx (dVarP 4) (dC (.int 2))) (dC (.int 16))) (dC (.int 15))))) (dApp 2 (dLst (dCons (dOp kIx (dLst (dCons (dVar 5) (dCons (dC .non) dNil))) (dOp kDiv (dOp kMod (dOp kDiv (dOp kIx (dVarP 4) (dC (.int 2))) (dC (.int 16))) (dC (.int 8))) (dC (.int 7)))) (dCons (dOp kIx (dLst (dCons (dVar 6) (dCons (dC .non) dNil))) (dOp kDiv (dOp kMod (dOp kDiv (dOp kIx (dVarP 4) (dC (.int 2))) (dC (.int 128))) (dC (.int 8))) (dC (.int 7)))) dNil)))))))) (dFrz 2 (dRet (dVar 2)))))
theorem der__law_box (T : Txt K mg a_is_whole a_common a_fraction a_plus a_times a_under a_along a_holds a_lies_in a_divisor_of a_lowest a_added a_crossed a_first_with a_reduced a_solution a_choices a_turned_rows a_made_whole a_shares_by a_ring_of a_empty_by a_corners a_way_out a_least_shares a_most a__law_cell_at a__law_stream a__law_number a__law_box a__law_room a_law) (D__law_stream : FD P w K mg base 1 a__law_stream 2 [] g__law_stream) (D__law_number : FD P w K mg base 1 a__law_number 1 [] g__law_number)
    {f : Addr} {cdv : Value} {A : Around} {outer : List Env} {s : Shared} {H : Hp} {E : XK} (hr : Room 1 (A.deeper (envOfC "_law_box" (defScope s__law_box) s.heap.objs.size f cdv))) :
    RSs (cxOf (L2.CX P w) P w K mg base N__law_box "_law_box" (defScope s__law_box) f cdv A outer s H E) (WF E) (defBody s__law_box) (tb__law_box) :=
  (rss_cons (rs_own 2 sc__law_box.nd (rn_lst ra_nil)) (rss_cons (rs_for (passes_of rfl) (ri_range1 (rp_var 1) T.b_range) (rg_name 3 sc__law_box.nd) (rss_cons (rs_set 4 sc__law_box.nd (re_call D__law_stream (hr.mono (by decide)) T.f__law_stream (takes_of rfl rfl rfl rfl) (ra_cons (re_op opd_add (rp_var 0) (RE.p (re_op opd_mul (RE.p re_int) (rp_var 3)))) (ra_cons re_int ra_nil)))) (rss_cons (rs_set 5 sc__law_box.nd (re_call D__law_number (hr.mono (by decide)) T.f__law_number (takes_of rfl rfl rfl rfl) (ra_cons (re_ix ixd_seq (rp_var 4) (RE.p re_int)) ra_nil))) (rss_cons (rs_set 6 sc__law_box.nd (re_op opd_sub (RE.p (re_op opd_add (rp_var 5) (RE.p (re_op opd_mod (RE.p (re_op opd_div (RE.p (re_ix ixd_seq (rp_var 4) (RE.p re_int))) (RE.p re_int))) (RE.p (re_ix ixd_seq (RE.p (re_lst (ra_cons re_int (ra_cons re_int (ra_cons (re_op opd_pow (RE.p re_int) (RE.p re_int)) (ra_cons re_int ra_nil)))))) (RE.p (re_op opd_mod (RE.p (re_ix ixd_seq (rp_var 4) (RE.p re_int))) (RE.p re_int))))))))) (RE.p (re_op opd_div (RE.p (re_op opd_mod (RE.p (re_ix ixd_seq (rp_var 4) (RE.p re_int))) (RE.p re_int))) (RE.p re_int))))) (rss_one (rs_app 2 (re_lst (ra_cons (re_ix ixd_seq (RE.p (re_lst (ra_cons (re_var 5) (ra_cons re_non ra_nil)))) (RE.p (re_op opd_div (RE.p (re_op opd_mod (RE.p (re_op opd_div (RE.p (re_ix ixd_seq (rp_var 4) (RE.p re_int))) (RE.p re_int))) (RE.p re_int))) (RE.p re_int)))) (ra_cons (re_ix ixd_seq (RE.p (re_lst (ra_cons (re_var 6) (ra_cons re_non ra_nil)))) (RE.p (re_op opd_div (RE.p (re_op opd_mod (RE.p (re_op opd_div (RE.p (re_ix ixd_seq (rp_var 4) (RE.p re_int))) (RE.p re_int))) (RE.p re_int))) (RE.p re_int)))) ra_nil))))))))) (rss_frz 2 (rss_one (rs_ret (re_var 2))))))
/-! ### _law_room -/
abbrev s__law_room : Stmt := topS 39
abbrev N__law_room : List Str := ["_law_box_here", "_law_cell", "_law_room_here", "_law_xs", "_law_k", "_law_side", "_law_x", "_law_often", "_law_row", "_law_cut", "_law_some"]
theorem sc__law_room : FnScope N__law_room ["_law_box_here", "_law_cell"] (defScope s__law_room) := ⟨rfl, rfl, rfl, by decide +kernel, rfl, by decide +kernel, by decide +kernel⟩
def tb__law_room  : DS :=
  (dSq (dSet 2 (dLst dNil)) (dSq (dSet 3 (dCall 2 [] g__law_stream (dCons (dVar 1) (dCons (dC (.int 12)) dNil)))) (dSq (dFor (dRng1 (dCB kLen (dCons (dVarP 0) dNil))) (gNm 4) (dFor (dRng1 (dC (.int 2))) (gNm 5) (dSq (dSet 6 (dOp kIx (dVarP 3) (dOp kAdd (dOp kMul (dC (.int 2)) (dVarP 4)) (dVarP 5)))) (dIf (dTest (dOp kIsNot (dOp kIx (dOp kIx (dVarP 0) (dVarP 4)) (dVarP 5)) (dC .non))) (dSq (dSet 7 (dOp kIx (dLst (dCons (dC (.int 1)) (dCons (dC (.int 1)) (dCons (dC (.int 3)) (dCons (dOp kPow (dC (.int 10)) (dC (.int 6))) dNil))))) (dOp kMod (dVarP 6) (dC (.int 4))))) (dSq (dOwn 8 (dRepN (dLst (dCons (dC (.int 0)) dNil)) (dOp kAdd (dCB kLen (dCons (dVarP 0) dNil)) (dC (.int 1))))) (dSq (dPut 8 (dVarP 4) (dOp kMul (dVarP 7) (dOp kSub (dOp kMul (dC (.int 2)) (dVarP 5)) (dC (.int 1))))) (dSq (dPut 8 (dNeg (dC (.int 1))) (dOp kMul (dOp kMul (dVarP 7) (dOp kSub (dOp kMul (dC (.int 2)) (dVarP 5)) (dC (.int 1)))) (dOp kIx (dOp kIx (dVarP 0) (dVarP 4)) (dVarP 5)))) (dSq (dSet 9 (dOp kMod (dOp kDiv (dVarP 6) (dC (.int 4))) (dC (.int 3)))) (dSq (dSet 10 (dOp kMul (dLst (dCons (dCB kTuple (dCons (dVarP 8) dNil)) dNil)) (dOp kAdd (dC (.int 1)) (dOp kMul (dOp kDiv (dOp kMod (dOp kDiv (dVarP 6) (dC (.int 12))) (dC (.int 5))) (dC (.int 4))) (dCB kInt1 (dCons (dOp kLt (dCB kLen (dCons (dVarP 0) dNil)) (dC (.int 3))) dNil)))))) (dSet 2 (dOp kAdd (dOp kAdd (dSl (dVarP 2) dNoPart (dPart (dVarP 9))) (dVarP 10)) (dSl (dVarP 2) (dPart (dVarP 9)) dNoPart))))))))) dNext)))) (dRet (dVar 2)))))
theorem der__law_room (T : Txt K mg a_is_whole a_common a_fraction a_plus a_times a_under a_along a_holds a_lies_in a_divisor_of a_lowest a_added a_crossed a_first_with a_reduced a_solution a_choices a_turned_rows a_made_whole a_shares_by a_ring_of a_empty_by a_corners a_way_out a_least_shares a_most a__law_cell_at a__law_stream a__law_number a__law_box a__law_room a_law) (D__law_stream : FD P w K mg base 1 a__law_stream 2 [] g__law_stream)
    {f : Addr} {cdv : Value} {A : Around} {outer : List Env} {s : Shared} {H : Hp} {E : XK} (hr : Room 1 (A.deeper (envOfC "_law_room" (defScope s__law_room) s.heap.objs.size f cdv))) :
    RSs (cxOf (L2.CX P w) P w K mg base N__law_room "_law_room" (defScope s__law_room) f cdv A outer s H E) (WF E) (defBody s__law_room) (tb__law_room) :=
  (rss_cons (rs_set 2 sc__law_room.nd (re_lst ra_nil)) (rss_cons (rs_set 3 sc__law_room.nd (re_call D__law_stream (hr.mono (by decide)) T.f__law_stream (takes_of rfl rfl rfl rfl) (ra_cons (re_var 1) (ra_cons re_int ra_nil)))) (rss_cons (rs_for (passes_of rfl) (ri_range1 (RE.p (re_callB cd_len T.b_len (rpa_cons (rp_var 0) rpa_nil))) T.b_range) (rg_name 4 sc__law_room.nd) (rss_one (rs_for (passes_of rfl) (ri_range1 (RE.p re_int) T.b_range) (rg_name 5 sc__law_room.nd) (rss_cons (rs_set 6 sc__law_room.nd (re_ix ixd_seq (rp_var 3) (RE.p (re_op opd_add (RE.p (re_op opd_mul (RE.p re_int) (rp_var 4))) (rp_var 5))))) (rss_one (rs_if (rt_cmp opd_isnot (RE.p (re_ix ixd_seq (RE.p (re_ix ixd_seq (rp_var 0) (rp_var 4))) (rp_var 5))) (RE.p re_non)) (rss_cons (rs_set 7 sc__law_room.nd (re_ix ixd_seq (RE.p (re_lst (ra_cons re_int (ra_cons re_int (ra_cons re_int (ra_cons (re_op opd_pow (RE.p re_int) (RE.p re_int)) ra_nil)))))) (RE.p (re_op opd_mod (rp_var 6) (RE.p re_int))))) (rss_cons (rs_own 8 sc__law_room.nd (rn_rep (RE.p (re_lst (ra_cons re_int ra_nil))) (RE.p (re_op opd_add (RE.p (re_callB cd_len T.b_len (rpa_cons (rp_var 0) rpa_nil))) (RE.p re_int))))) (rss_cons (rs_put 8 (rp_var 4) (re_op opd_mul (rp_var 7) (RE.p (re_op opd_sub (RE.p (re_op opd_mul (RE.p re_int) (rp_var 5))) (RE.p re_int))))) (rss_cons (rs_put 8 (RE.p (re_neg (RE.p re_int))) (re_op opd_mul (RE.p (re_op opd_mul (rp_var 7) (RE.p (re_op opd_sub (RE.p (re_op opd_mul (RE.p re_int) (rp_var 5))) (RE.p re_int))))) (RE.p (re_ix ixd_seq (RE.p (re_ix ixd_seq (rp_var 0) (rp_var 4))) (rp_var 5))))) (rss_cons (rs_set 9 sc__law_room.nd (re_op opd_mod (RE.p (re_op opd_div (rp_var 6) (RE.p re_int))) (RE.p re_int))) (rss_cons (rs_set 10 sc__law_room.nd (re_op opd_mul (RE.p (re_lst (ra_cons (re_callTy cd_tuple T.b_tuple (rpa_cons (rp_var 8) rpa_nil)) ra_nil))) (RE.p (re_op opd_add (RE.p re_int) (RE.p (re_op opd_mul (RE.p (re_op opd_div (RE.p (re_op opd_mod (RE.p (re_op opd_div (rp_var 6) (RE.p re_int))) (RE.p re_int))) (RE.p re_int))) (RE.p (re_callTy cd_int1 T.b_int (rpa_cons (RE.p (re_cmp opd_lt (RE.p (re_callB cd_len T.b_len (rpa_cons (rp_var 0) rpa_nil))) (RE.p re_int))) rpa_nil))))))))) (rss_one (rs_set 2 sc__law_room.nd (re_op opd_add (RE.p (re_op opd_add (RE.p (re_slice (rp_var 2) ro_none (ro_some (rp_var 9)))) (rp_var 10))) (RE.p (re_slice (rp_var 2) (ro_some (rp_var 9)) ro_none))))))))))) rss_nil)))))) (rss_one (rs_ret (re_var 2))))))
/-! ### law -/
abbrev s_law : Stmt := topS 40
abbrev N_law : List Str := ["_law_script", "_law_many", "_law_box_here", "_law_room_here", "_law_cell", "_law_numbers", "_law_x", "_law_due", "_law_k", "_law_end", "_law_found", "_law_told", "_law_low", "_law_high"]
theorem sc_law : FnScope N_law ["_law_script"] (defScope s_law) := ⟨rfl, rfl, rfl, by decide +kernel, rfl, by decide +kernel, by decide +kernel⟩
def tb_law (K : PySem.W.Frag) : DS :=
  (dSq (dSet 1 (dOp kAdd (dC (.int 1)) (dOp kMod (dCall 2 [] g__law_cell_at (dCons (dVar 0) (dCons (dC (.int 0)) dNil))) (dC (.int 3))))) (dSq (dSet 2 (dCall 2 [] g__law_box (dCons (dCall 2 [] g__law_cell_at (dCons (dVar 0) (dCons (dC (.int 1)) dNil))) (dCons (dVar 1) dNil)))) (dSq (dSet 3 (dCall 2 [] g__law_room (dCons (dVar 2) (dCons (dCall 2 [] g__law_cell_at (dCons (dVar 0) (dCons (dC (.int 2)) dNil))) dNil)))) (dSq (dFor (dSeq (dOp kAdd (dSl (dVarP 0) (dPart (dC (.int 3))) (dPart (dC (.int 6)))) (dLst (dCons (dCall 2 [] g__law_cell_at (dCons (dVar 0) (dCons (dC (.int 0)) dNil))) dNil)))) (gNm 4) (dSq (dSet 5 (dLc (dSeq (dCall 2 [] g__law_stream (dCons (dVar 4) (dCons (dVar 1) dNil)))) (gNm 6) dYes (dCall 1 [] g__law_number (dCons (dVar 6) dNil)) [6])) (dSq (dSet 7 (dC (.int 0))) (dSq (dFor (dRng1 (dVarP 1)) (gNm 8) (dIf (dAnd (dTest (dOp kNe (dOp kIx (dVarP 5) (dVarP 8)) (dC (.int 0)))) (dTest (dOp kIsNot (dVarP 7) (dC .non)))) (dSq (dSet 9 (dOp kIx (dOp kIx (dVarP 2) (dVarP 8)) (dCB kInt1 (dCons (dOp kGt (dOp kIx (dVarP 5) (dVarP 8)) (dC (.int 0))) dNil)))) (dSet 7 (dIfE (dTest (dOp kIs (dVarP 9) (dC .non))) (dC .non) (dOp kAdd (dVarP 7) (dOp kMul (dOp kIx (dVarP 5) (dVarP 8)) (dVarP 9)))))) dNext)) (dSq (dSet 10 (dCall 2 [] g_most (dCons (dCB kList (dCons (dVarP 3) dNil)) (dCons (dCB kTuple (dCons (dOp kAdd (dVarP 5) (dLst (dCons (dOp kMod (dVarP 4) (dC (.int 5))) dNil))) dNil)) dNil)))) (dSq (dSet 11 (dLc (dSeq (dVar 2)) (gTq 2 (gCs (gNm 12) (gCs (gNm 13) gNl))) (dAnd (dTest (dOp kIsNot (dVarP 12) (dC .non))) (dAnd (dTest (dOp kIsNot (dVarP 13) (dC .non))) (dTest (dOp kGt (dVarP 12) (dVarP 13))))) (dVar 12) [12, 13])) (dSq (dIf (dOr (dNot (dTest (dCB (kIsi K) (dCons (dVarP 10) (dCons (dC (.ty "tuple")) dNil))))) (dTest (dOp kNe (dOp kEq (dOp kIx (dVarP 10) (dC (.int 0))) (dC (.str "empty"))) (dOp kNe (dVarP 11) (dLst dNil))))) (dRet (dC (.bl false))) dNext) (dSq (dIf (dAnd (dTest (dOp kEqZ (dVarP 11) (dLst dNil))) (dAnd (dTest (dOp kIs (dVarP 7) (dC .non))) (dTest (dOp kNe (dOp kIx (dVarP 10) (dC (.int 0))) (dC (.str "open")))))) (dRet (dC (.bl false))) dNext) (dIf (dAnd (dTest (dOp kEqZ (dVarP 11) (dLst dNil))) (dAnd (dTest (dOp kIsNot (dVarP 7) (dC .non))) (dTest (dOp kNe (dSl (dVarP 10) dNoPart (dPart (dC (.int 2)))) (dTup (dCons (dC (.str "most")) (dCons (dTup (dCons (dVar 7) (dCons (dC (.int 1)) dNil))) dNil))))))) (dRet (dC (.bl false))) dNext))))))))) (dRet (dC (.bl true)))))))
theorem der_law (T : Txt K mg a_is_whole a_common a_fraction a_plus a_times a_under a_along a_holds a_lies_in a_divisor_of a_lowest a_added a_crossed a_first_with a_reduced a_solution a_choices a_turned_rows a_made_whole a_shares_by a_ring_of a_empty_by a_corners a_way_out a_least_shares a_most a__law_cell_at a__law_stream a__law_number a__law_box a__law_room a_law) (D_most : FD P w K mg base 9 a_most 2 [] g_most) (D__law_cell_at : FD P w K mg base 1 a__law_cell_at 2 [] g__law_cell_at) (D__law_stream : FD P w K mg base 1 a__law_stream 2 [] g__law_stream) (D__law_number : FD P w K mg base 1 a__law_number 1 [] g__law_number) (D__law_box : FD P w K mg base 2 a__law_box 2 [] g__law_box) (D__law_room : FD P w K mg base 2 a__law_room 2 [] g__law_room)
    {f : Addr} {cdv : Value} {A : Around} {outer : List Env} {s : Shared} {H : Hp} {E : XK} (hr : Room 9 (A.deeper (envOfC "law" (defScope s_law) s.heap.objs.size f cdv))) :
    RSs (cxOf (L2.CX P w) P w K mg base N_law "law" (defScope s_law) f cdv A outer s H E) (WF E) (defBody s_law) (tb_law K) :=
  (rss_cons (rs_set 1 sc_law.nd (re_op opd_add (RE.p re_int) (RE.p (re_op opd_mod (RE.p (re_call D__law_cell_at (hr.mono (by decide)) T.f__law_cell_at (takes_of rfl rfl rfl rfl) (ra_cons (re_var 0) (ra_cons re_int ra_nil)))) (RE.p re_int))))) (rss_cons (rs_set 2 sc_law.nd (re_call D__law_box (hr.mono (by decide)) T.f__law_box (takes_of rfl rfl rfl rfl) (ra_cons (re_call D__law_cell_at (hr.mono (by decide)) T.f__law_cell_at (takes_of rfl rfl rfl rfl) (ra_cons (re_var 0) (ra_cons re_int ra_nil))) (ra_cons (re_var 1) ra_nil)))) (rss_cons (rs_set 3 sc_law.nd (re_call D__law_room (hr.mono (by decide)) T.f__law_room (takes_of rfl rfl rfl rfl) (ra_cons (re_var 2) (ra_cons (re_call D__law_cell_at (hr.mono (by decide)) T.f__law_cell_at (takes_of rfl rfl rfl rfl) (ra_cons (re_var 0) (ra_cons re_int ra_nil))) ra_nil)))) (rss_cons (rs_for (passes_of rfl) (ri_seq (re_op opd_add (RE.p (re_slice (rp_var 0) (ro_some (RE.p re_int)) (ro_some (RE.p re_int)))) (RE.p (re_lst (ra_cons (re_call D__law_cell_at (hr.mono (by decide)) T.f__law_cell_at (takes_of rfl rfl rfl rfl) (ra_cons (re_var 0) (ra_cons re_int ra_nil))) ra_nil))))) (rg_name 4 sc_law.nd) (rss_cons (rs_setLc 5 sc_law.nd (ri_seq (re_call D__law_stream (hr.mono (by decide)) T.f__law_stream (takes_of rfl rfl rfl rfl) (ra_cons (re_var 4) (ra_cons (re_var 1) ra_nil)))) (blkOk_by (own := [("_law_x", 6)]) (N := N_law) (sc := (defScope s_law)) (by decide +kernel)) (fun _ _ _ _ _ => (rg_name 6 sc_law.nd)) (fun _ _ _ _ _ => rts_nil) (fun _ _ _ _ _ => (re_call D__law_number (hr.mono (by decide)) T.f__law_number takes0 (ra_cons (re_var 6) ra_nil))) (sw_true rfl rfl rfl (by decide +kernel))) (rss_cons (rs_set 7 sc_law.nd re_int) (rss_cons (rs_for (passes_of rfl) (ri_range1 (rp_var 1) T.b_range) (rg_name 8 sc_law.nd) (rss_one (rs_if (RW.toT (rw_and (rt_cmp (opd_ne hr.units) (RE.p (re_ix ixd_seq (rp_var 5) (rp_var 8))) (RE.p re_int)) (rw_and1 (rt_cmp opd_isnot (rp_var 7) (RE.p re_non))))) (rss_cons (rs_set 9 sc_law.nd (re_ix ixd_seq (RE.p (re_ix ixd_seq (rp_var 2) (rp_var 8))) (RE.p (re_callTy cd_int1 T.b_int (rpa_cons (RE.p (re_cmp opd_gt (RE.p (re_ix ixd_seq (rp_var 5) (rp_var 8))) (RE.p re_int))) rpa_nil))))) (rss_one (rs_set 7 sc_law.nd (re_ifExp (rt_cmp opd_is (rp_var 9) (RE.p re_non)) re_non (re_op opd_add (rp_var 7) (RE.p (re_op opd_mul (RE.p (re_ix ixd_seq (rp_var 5) (rp_var 8))) (rp_var 9)))))))) rss_nil))) (rss_cons (rs_set 10 sc_law.nd (re_call D_most (hr.mono (by decide)) T.f_most (takes_of rfl rfl rfl rfl) (ra_cons (re_callTy cd_list T.b_list (rpa_cons (rp_var 3) rpa_nil)) (ra_cons (re_callTy cd_tuple T.b_tuple (rpa_cons (RE.p (re_op opd_add (rp_var 5) (RE.p (re_lst (ra_cons (re_op opd_mod (rp_var 4) (RE.p re_int)) ra_nil))))) rpa_nil)) ra_nil)))) (rss_cons (rs_setLc 11 sc_law.nd (ri_seq (re_var 2)) (blkOk_by (own := [("_law_low", 12), ("_law_high", 13)]) (N := N_law) (sc := (defScope s_law)) (by decide +kernel)) (fun _ _ _ _ _ => (rg_tuq (rgs_cons (rg_name 12 sc_law.nd) (rgs_cons (rg_name 13 sc_law.nd) rgs_nil)))) (fun _ _ _ _ _ => (rts_one (RW.toT (rw_and (rt_cmp opd_isnot (rp_var 12) (RE.p re_non)) (rw_and (rt_cmp opd_isnot (rp_var 13) (RE.p re_non)) (rw_and1 (rt_cmp opd_gt (rp_var 12) (rp_var 13)))))))) (fun _ _ _ _ _ => (re_var 12)) (sw_true rfl rfl rfl (by decide +kernel))) (rss_cons (rs_if (RW.toT (rw_or (rt_not (rt_val (RE.p (re_callB (cd_isi (K := K)) T.b_isinstance (rpa_cons (rp_var 10) (rpa_cons (RE.p (re_ty T.b_tuple (by decide +kernel))) rpa_nil)))))) (rw_or1 (rt_cmp (opd_ne hr.units) (RE.p (re_cmp (opd_eq hr.units) (RE.p (re_ix ixd_seq (rp_var 10) (RE.p re_int))) (RE.p re_str))) (RE.p (re_cmp (opd_ne hr.units) (rp_var 11) (RE.p (re_lst ra_nil)))))))) (rss_one (rs_ret re_bl)) rss_nil) (rss_cons (rs_if (RW.toT (rw_and (rt_cmp (opd_eqZ hr.units) (rp_var 11) (RE.p (re_lst ra_nil))) (rw_and (rt_cmp opd_is (rp_var 7) (RE.p re_non)) (rw_and1 (rt_cmp (opd_ne hr.units) (RE.p (re_ix ixd_seq (rp_var 10) (RE.p re_int))) (RE.p re_str)))))) (rss_one (rs_ret re_bl)) rss_nil) (rss_one (rs_if (RW.toT (rw_and (rt_cmp (opd_eqZ hr.units) (rp_var 11) (RE.p (re_lst ra_nil))) (rw_and (rt_cmp opd_isnot (rp_var 7) (RE.p re_non)) (rw_and1 (rt_cmp (opd_ne hr.units) (RE.p (re_slice (rp_var 10) ro_none (ro_some (RE.p re_int)))) (RE.p (re_tup (ra_cons re_str (ra_cons (re_tup (ra_cons (re_var 7) (ra_cons re_int ra_nil))) ra_nil))))))))) (rss_one (rs_ret re_bl)) rss_nil)))))))))) (rss_one (rs_ret re_bl))))))
end
end K62

namespace K62
open PySem PySem.Spec
open PyProof.Rows L2 Dl
local macro_rules | `(tactic| walk_at "rd") => `(tactic| ((conv => whnf); (try dsimp only [startD, wipeD, q_map_cons, q_map_nil, q_app_cons, q_app_nil, q_len_cons, q_len_nil, q_rep_0, q_rep_s, q_get_0, q_get_s, q_set_0, q_set_s, ifP_t, ifP_f, Nat.reduceAdd, Nat.reduceSub, Int.reduceToNat, Int.reducePow, Int.reduceAdd, Int.reduceMul])))
local macro_rules | `(tactic| walk_at "bx") => `(tactic| first | with_reducible assumption | (apply bnd_mul <;> walk_at "bx") | (apply bnd_addM <;> walk_at "bx") | (apply bnd_subM <;> walk_at "bx") | (apply bnd_negM <;> walk_at "bx") | exact bnd_lit (k := 8) (by decide) | exact bnd_lit (k := 64) (by decide) | (with_reducible (apply_assumption)))
local macro_rules | `(tactic| walk_at "bd") => `(tactic| first | with_reducible assumption | (apply bnd_mono; (walk_at "bx"); first | omega | decide))
local macro_rules | `(tactic| walk_at "sd") => `(tactic| first | with_reducible assumption | omega | with_reducible rfl | exact (rfl : (_ : Bool) = true) | exact (rfl : @Eq (Option D) _ none) | decide | exact few_of (by decide) | exact divOk_small (by decide) (by decide +kernel) | exact mulOk_r (by omega) (by omega) | exact mulOk_l (by omega) (by omega) | ((with_reducible apply mul_of); (walk_at "bx"); (walk_at "bx"); first | omega | decide) | exact few_of (by simp only [List.length_append, List.length_map, List.length_cons, List.length_nil, tab_len, List.length_replicate]; omega))
local macro_rules | `(tactic| walk_at "go") => `(tactic| ((try walk_at "rd"); (repeat (refine And.intro (by walk_at "sd") ?_; try walk_at "rd"))))
theorem pk8 (a Z : Int) : ∃ w, atI [D.int a, D.non] ((Z.fmod 8).fdiv 7) = some (opD w) ∧ (w = some a ∨ w = none) := by
  have m1 := Int.fmod_nonneg_of_pos Z (show (0 : Int) < 8 by decide)
  have m2 := Int.fmod_lt_of_pos Z (show (0 : Int) < 8 by decide)
  generalize Z.fmod 8 = v at *
  by_cases h : v = 7
  · subst h
    exact ⟨none, rfl, .inr rfl⟩
  · refine ⟨some a, ?_, .inl rfl⟩
    have : v.fdiv 7 = 0 := by
      rw [Int.fdiv_eq_ediv_of_nonneg _ (by decide)]
      omega
    rw [this]
    rfl
theorem rd__law_box (ds : List D) (Q E : EQ) (_ : ds.length = 2) (h : g__law_box ds Q E) : tb__law_box (dE Q E) (startD N__law_box ds) := by
  obtain ⟨c, n, rfl, h1, h3, q⟩ := h
  unfold tb__law_box dE
  walk_at "go"
  rw [Int.toNat_natCast, irg0]
  refine loop_ix (fun k ρ => ∃ (bs : List (Option Int × Option Int)) (s3 s4 s5 s6 : Sl), ρ = [.sh (.int c), .sh (.int n), .ow (bs.map bxD), s3, s4, s5, s6] ∧ okBx k bs) _ ?_ ?_ ⟨[], _, _, _, _, rfl, rfl, (fun b hb => nomatch hb), fun b hb => nomatch hb⟩
  · rintro ρ ⟨bs, s3, s4, s5, s6, rfl, hb⟩
    rw [List.length_map, List.length_range] at hb
    walk_at "go"
    exact q bs hb
  · rintro k x ρ hx ⟨bs, s3, s4, s5, s6, rfl, hb⟩ N hN
    obtain ⟨hk, rfl⟩ := rng_inv hx
    walk_at "go"
    refine ⟨_, 3, rfl, by decide, fun X hX => ?_⟩
    walk_at "go"
    refine ⟨X 0, rfl, fun lo l1 l2 => ?_⟩
    obtain ⟨y, hy, hc⟩ := pick4' 1 9 1000000000000 5 (X 1)
    have z1 : 0 < y := by omega
    have m1 := Int.fmod_nonneg_of_pos ((X 1).fdiv 4) z1
    have m2 := Int.fmod_lt_of_pos ((X 1).fdiv 4) z1
    have n1 := Int.fmod_nonneg_of_pos (X 2) (show (0 : Int) < 16 by decide)
    have n2 := Int.fmod_lt_of_pos (X 2) (show (0 : Int) < 16 by decide)
    walk_at "go"
    rw [hy]
    walk_at "go"
    obtain ⟨w1, e1, c1⟩ := pk8 lo ((X 2).fdiv 16)
    rw [e1]
    walk_at "go"
    have d15 : ((X 2).fmod 16).fdiv 15 = 0 ∨ ((X 2).fmod 16).fdiv 15 = 1 := by
      rw [Int.fdiv_eq_ediv_of_nonneg _ (by decide)]
      omega
    generalize ((X 1).fdiv 4).fmod y = u at *
    generalize ((X 2).fmod 16).fdiv 15 = e15 at *
    obtain ⟨w2, e2, c2⟩ := pk8 (lo + u - e15) ((X 2).fdiv 128)
    rw [e2]
    walk_at "go"
    refine ⟨few_of (by rw [List.length_append, List.length_map, hb.len, List.length_singleton]; omega), ?_⟩
    have hb2 : okBx (k + 1) (bs ++ [(w1, w2)]) := by
      refine ⟨by rw [List.length_append, hb.len]; rfl, fun b hb' => ?_, fun b hb' => ?_⟩
      · rcases List.mem_append.mp hb' with hb' | hb'
        · exact hb.lo b hb'
        · rw [List.mem_singleton.mp hb']
          intro v hv
          rcases c1 with rfl | rfl
          · cases hv
            exact bnd_of (by omega) (by omega)
          · cases hv
      · rcases List.mem_append.mp hb' with hb' | hb'
        · exact hb.hi b hb'
        · rw [List.mem_singleton.mp hb']
          intro v hv
          rcases c2 with rfl | rfl
          · cases hv
            exact bnd_of (by omega) (by omega)
          · cases hv
    rw [show List.map bxD bs ++ [D.lst [opD w1, opD w2]] = List.map bxD (bs ++ [(w1, w2)]) from by rw [List.map_append]; rfl]
    exact hN _ ⟨bs ++ [(w1, w2)], _, _, _, _, rfl, hb2⟩
end K62

namespace K62
open PySem PySem.Spec
open PyProof.Rows L2 Dl
local macro_rules | `(tactic| walk_at "rd") => `(tactic| ((conv => whnf); (try dsimp only [startD, wipeD, q_map_cons, q_map_nil, q_app_cons, q_app_nil, q_len_cons, q_len_nil, q_rep_0, q_rep_s, q_get_0, q_get_s, q_set_0, q_set_s, ifP_t, ifP_f, Nat.reduceAdd, Nat.reduceSub, Int.reduceToNat, Int.reducePow, Int.reduceAdd, Int.reduceMul])))
local macro_rules | `(tactic| walk_at "bx") => `(tactic| first | with_reducible assumption | (apply bnd_mul <;> walk_at "bx") | (apply bnd_addM <;> walk_at "bx") | (apply bnd_subM <;> walk_at "bx") | (apply bnd_negM <;> walk_at "bx") | exact bnd_lit (k := 8) (by decide) | exact bnd_lit (k := 64) (by decide) | (with_reducible (apply_assumption)))
local macro_rules | `(tactic| walk_at "bd") => `(tactic| first | with_reducible assumption | (apply bnd_mono; (walk_at "bx"); first | omega | decide))
local macro_rules | `(tactic| walk_at "sd") => `(tactic| first | with_reducible assumption | omega | with_reducible rfl | exact (rfl : (_ : Bool) = true) | exact (rfl : @Eq (Option D) _ none) | decide | exact few_of (by decide) | exact divOk_small (by decide) (by decide +kernel) | exact mulOk_r (by omega) (by omega) | exact mulOk_l (by omega) (by omega) | ((with_reducible apply mul_of); (walk_at "bx"); (walk_at "bx"); first | omega | decide) | exact few_of (by simp only [List.length_append, List.length_map, List.length_cons, List.length_nil, tab_len, List.length_replicate]; omega))
local macro_rules | `(tactic| walk_at "go") => `(tactic| ((try walk_at "rd"); (repeat (refine And.intro (by walk_at "sd") ?_; try walk_at "rd"))))
theorem ixN_m1 (n : Nat) : ixN (n + 1) (-1) = some n := by
  unfold ixN
  rw [if_neg (by decide), if_pos (by omega)]
  exact congrArg some (by omega)
theorem rd__law_room (ds : List D) (Q E : EQ) (_ : ds.length = 2) (h : g__law_room ds Q E) : tb__law_room (dE Q E) (startD N__law_room ds) := by
  obtain ⟨bs, c, n, rfl, h1, h3, hb, q⟩ := h
  have bl : (bs.map bxD).length = n := by rw [List.length_map, hb.len]
  unfold tb__law_room dE
  walk_at "go"
  refine ⟨c, 12, rfl, by decide, fun X hX => ?_⟩
  walk_at "go"
  rw [bl, Int.toNat_natCast, irg0]
  refine loop_ix (fun k ρ => ∃ (rs : List (Nat → Int)) (s4 s5 s6 s7 s8 s9 s10 : Sl), ρ = [.sh (.lst (bs.map bxD)), .sh (.int c), .sh (.lst (rs.map (rowW (n + 1)))), .sh (.lst (tabD 12 X)), s4, s5, s6, s7, s8, s9, s10] ∧ okRs n bs rs (2 * k)) _ ?_ ?_ ⟨[], _, _, _, _, _, _, _, rfl, Nat.zero_le _, (fun b hb => nomatch hb), fun k s _ h => absurd h (by omega)⟩
  · rintro ρ ⟨rs, s4, s5, s6, s7, s8, s9, s10, rfl, hr⟩
    rw [List.length_map, List.length_range] at hr
    walk_at "go"
    exact q rs hr
  · rintro k x ρ hx ⟨rs, s4, s5, s6, s7, s8, s9, s10, rfl, hr⟩ N hN
    obtain ⟨hk, rfl⟩ := rng_inv hx
    walk_at "go"
    refine loop_ix (fun j ρ => ∃ (rs : List (Nat → Int)) (s5 s6 s7 s8 s9 s10 : Sl), ρ = [.sh (.lst (bs.map bxD)), .sh (.int c), .sh (.lst (rs.map (rowW (n + 1)))), .sh (.lst (tabD 12 X)), .sh (.int k), s5, s6, s7, s8, s9, s10] ∧ okRs n bs rs (2 * k + j)) _ ?_ ?_ ⟨rs, _, _, _, _, _, _, rfl, hr⟩
    · rintro ρ ⟨rs, s5, s6, s7, s8, s9, s10, rfl, hr⟩
      rw [irg_len] at hr
      exact hN _ ⟨rs, _, _, _, _, _, _, _, rfl, hr⟩
    · rintro j x ρ hx ⟨rs, s5, s6, s7, s8, s9, s10, rfl, hr⟩ N' hN'
      obtain ⟨hj, rfl⟩ := irg_inv hx
      rw [Int.zero_add]
      have hat : ∀ k : Nat, k < 12 → atI (tabD 12 X) (k : Int) = some (.int (X k)) := fun k hk => by rw [atI_nn, tab_get hk]
      walk_at "go"
      rw [show (2 * (k : Int) + (j : Int)) = ((2 * k + j : Nat) : Int) by omega, hat _ (by omega)]
      obtain ⟨qk, hqk, hbk⟩ : ∃ qk, bs[k]? = some qk ∧ (bs.map bxD)[k]? = some (bxD qk) := by
        have : bs[k]? = some (bs[k]'(by rw [hb.len]; exact hk)) := List.getElem?_eq_getElem _
        exact ⟨_, this, by rw [List.getElem?_map, this]; rfl⟩
      walk_at "rd"
      rw [atI_nn, hbk]
      have hsd : ∃ o, sd bs k j = o ∧ atI [opD qk.1, opD qk.2] (j : Int) = some (opD o) := by
        rw [atI_nn]
        unfold sd
        rw [List.getD_eq_getElem?_getD, hqk]
        match j, hj with
        | 0, _ => exact ⟨_, rfl, rfl⟩
        | 1, _ => exact ⟨_, rfl, rfl⟩
      obtain ⟨o, ho, hso⟩ := hsd
      rw [show bxD qk = .lst [opD qk.1, opD qk.2] from rfl]
      walk_at "go"
      rw [hso]
      have hov : ∀ v, o = some v → bnd 41 v := fun v e => by
        subst e
        unfold sd at ho
        rw [List.getD_eq_getElem?_getD, hqk] at ho
        have hm := List.mem_of_getElem? hqk
        split at ho
        · exact bnd_mono (hb.lo _ hm v ho) (by decide)
        · exact hb.hi _ hm v ho
      cases o with
      | none =>
        unfold opD
        walk_at "go"
        refine hN' _ ⟨rs, _, _, _, _, _, _, rfl, Nat.le_trans hr.len (Nat.mul_le_mul_right _ (by omega)), hr.is, fun k' s' h1 h2 h3 => ?_⟩
        by_cases e : 2 * k' + s' < 2 * k + j
        · exact hr.all k' s' h1 e h3
        · have e1 : k' = k := by omega
          have e2 : s' = j := by omega
          rw [e1, e2, ho] at h3
          exact absurd rfl h3
      | some v =>
        have bv := hov v rfl
        obtain ⟨y, hy, hc⟩ := pick4' 1 1 3 1000000 (X (2 * k + j))
        have by' : bnd 20 y := bnd_of (by omega) (by omega)
        have bj : bnd 2 (2 * (j : Int) - 1) := bnd_of (by omega) (by omega)
        have b1 := bnd_mul by' bj
        unfold opD
        walk_at "go"
        rw [hy]
        walk_at "go"
        rw [bl, show ((n : Int) + 1).toNat = n + 1 by omega, rep_tab]
        refine ⟨few_of (by rw [tab_len]; omega), ?_⟩
        walk_at "go"
        rw [tab_len, ixN_nn (show k < n + 1 by omega)]
        walk_at "rd"
        rw [tab_set]
        walk_at "go"
        rw [atI_nn, hbk, show bxD qk = .lst [opD qk.1, opD qk.2] from rfl]
        walk_at "go"
        rw [hso]
        walk_at "go"
        rw [tab_len, ixN_m1]
        walk_at "rd"
        rw [tab_set]
        walk_at "go"
        have bl' : ((bs.map bxD).length : Int) = n := by rw [bl]
        rw [bl']
        obtain ⟨M, hM, hM2⟩ : ∃ M : Nat, 1 + (((X (2 * k + j)).fdiv 12).fmod 5).fdiv 4 * (if decide ((n : Int) < 3) = true then 1 else 0) = (M : Int) ∧ 1 ≤ M ∧ M ≤ if n < 3 then 2 else 1 := by
          have m1 := Int.fmod_nonneg_of_pos ((X (2 * k + j)).fdiv 12) (show (0 : Int) < 5 by decide)
          have m2 := Int.fmod_lt_of_pos ((X (2 * k + j)).fdiv 12) (show (0 : Int) < 5 by decide)
          generalize ((X (2 * k + j)).fdiv 12).fmod 5 = w at *
          have hw : w.fdiv 4 = 0 ∨ w.fdiv 4 = 1 := by
            rw [Int.fdiv_eq_ediv_of_nonneg _ (by decide)]
            omega
          by_cases hn : n < 3
          · rw [if_pos hn, decide_eq_true (show (n : Int) < 3 by omega)]
            rcases hw with e | e
            · exact ⟨1, by rw [e]; rfl, by decide, by decide⟩
            · exact ⟨2, by rw [e]; rfl, by decide, by decide⟩
          · rw [if_neg hn, decide_eq_false (show ¬ (n : Int) < 3 by omega)]
            exact ⟨1, by rw [if_neg (by decide), Int.mul_zero]; rfl, by decide, by decide⟩
        rw [hM, Int.toNat_natCast, List.flatten_replicate_singleton]
        obtain ⟨u, hu⟩ : ∃ u : Nat, ((X (2 * k + j)).fdiv 4).fmod 3 = (u : Int) := ⟨(((X (2 * k + j)).fdiv 4).fmod 3).toNat, (Int.toNat_of_nonneg (Int.fmod_nonneg_of_pos _ (by decide))).symm⟩
        rw [hu]
        have M2 : M ≤ 2 := Nat.le_trans hM2.2 (by split <;> decide)
        have hlen := hr.len
        have hJ : (2 * k + j) * (if n < 3 then 2 else 1) ≤ 12 := by
          split
          · omega
          · omega
        generalize hrr : (fun i => if i = n then y * (2 * (j : Int) - 1) * v else if i = k then y * (2 * (j : Int) - 1) else 0) = r
        have her : isR n bs k j r := ⟨y, v, ho, by omega, by omega, hrr.symm⟩
        refine ⟨by omega, by omega, few_of (by rw [List.length_replicate]; omega), ?_⟩
        walk_at "rd"
        rw [cut_take]
        have l1 : (rs.take u).length ≤ rs.length := by rw [List.length_take]; omega
        have l2 : (rs.take u).length + (rs.drop u).length = rs.length := by rw [← List.length_append, List.take_append_drop]
        have lR : rs.length ≤ 12 := Nat.le_trans hlen hJ
        have ec : (rs.map (rowW (n + 1))).take u ++ List.replicate M (D.tup (tabD (n + 1) r)) ++ (rs.map (rowW (n + 1))).drop u = (rs.take u ++ List.replicate M r ++ rs.drop u).map (rowW (n + 1)) := by
          rw [List.map_append, List.map_append, List.map_take, List.map_drop, List.map_replicate]
          rfl
        refine ⟨few_of (by rw [List.length_append, List.length_replicate, ← List.map_take, List.length_map]; omega), ?_⟩
        walk_at "rd"
        rw [cut_drop, ec]
        refine ⟨few_of (by rw [List.length_map, List.length_append, List.length_append, List.length_replicate]; omega), ?_⟩
        refine hN' _ ⟨rs.take u ++ List.replicate M r ++ rs.drop u, _, _, _, _, _, _, rfl, ?_, fun r' hr' => ?_, fun k' s' h1 h2 h3 => ?_⟩
        · rw [List.length_append, List.length_append, List.length_replicate, show 2 * k + (j + 1) = 2 * k + j + 1 from rfl, Nat.add_mul, Nat.one_mul]
          omega
        · rcases List.mem_append.mp hr' with hr' | hr'
          · rcases List.mem_append.mp hr' with hr' | hr'
            · exact hr.is r' (List.mem_of_mem_take hr')
            · rw [(List.mem_replicate.mp hr').2]
              exact ⟨k, j, hk, hj, her⟩
          · exact hr.is r' (List.mem_of_mem_drop hr')
        · by_cases e : 2 * k' + s' < 2 * k + j
          · obtain ⟨r', m', h'⟩ := hr.all k' s' h1 e h3
            refine ⟨r', ?_, h'⟩
            rw [← List.take_append_drop u rs] at m'
            rcases List.mem_append.mp m' with m' | m'
            · exact List.mem_append_left _ (List.mem_append_left _ m')
            · exact List.mem_append_right _ m'
          · have e1 : k' = k := by omega
            have e2 : s' = j := by omega
            rw [e1, e2]
            exact ⟨r, List.mem_append_left _ (List.mem_append_right _ (List.mem_replicate.mpr ⟨by omega, rfl⟩)), her⟩
end K62

namespace K62
open PySem PySem.Spec
open PyProof.Rows L2 Dl
local macro_rules | `(tactic| walk_at "rd") => `(tactic| ((conv => whnf); (try dsimp only [startD, wipeD, q_map_cons, q_map_nil, q_app_cons, q_app_nil, q_len_cons, q_len_nil, q_rep_0, q_rep_s, q_get_0, q_get_s, q_set_0, q_set_s, ifP_t, ifP_f, Nat.reduceAdd, Nat.reduceSub, Int.reduceToNat, Int.reducePow, Int.reduceAdd, Int.reduceMul])))
local macro_rules | `(tactic| walk_at "bx") => `(tactic| first | with_reducible assumption | (apply bnd_mul <;> walk_at "bx") | (apply bnd_addM <;> walk_at "bx") | (apply bnd_subM <;> walk_at "bx") | (apply bnd_negM <;> walk_at "bx") | exact bnd_lit (k := 8) (by decide) | exact bnd_lit (k := 64) (by decide) | (with_reducible (apply_assumption)))
local macro_rules | `(tactic| walk_at "bd") => `(tactic| first | with_reducible assumption | (apply bnd_mono; (walk_at "bx"); first | omega | decide))
local macro_rules | `(tactic| walk_at "sd") => `(tactic| first | with_reducible assumption | omega | with_reducible rfl | exact (rfl : (_ : Bool) = true) | exact (rfl : @Eq (Option D) _ none) | decide | exact few_of (by decide) | exact divOk_small (by decide) (by decide +kernel) | exact mulOk_r (by omega) (by omega) | exact mulOk_l (by omega) (by omega) | ((with_reducible apply mul_of); (walk_at "bx"); (walk_at "bx"); first | omega | decide) | exact few_of (by simp only [List.length_append, List.length_map, List.length_cons, List.length_nil, tab_len, List.length_replicate]; omega))
local macro_rules | `(tactic| walk_at "go") => `(tactic| ((try walk_at "rd"); (repeat (refine And.intro (by walk_at "sd") ?_; try walk_at "rd"))))
open Lp
def toldB (q : Option Int × Option Int) : Bool := match q.1, q.2 with
  | some l, some h => decide (h < l)
  | _, _ => false
def dueN (bs : List (Option Int × Option Int)) (t : Nat → Int) : Nat → Option Int
  | 0 => some 0
  | k + 1 => match dueN bs t k with
    | none => none
    | some d => if t k = 0 then some d else match sd bs k (if 0 < t k then 1 else 0) with
      | none => none
      | some e => some (d + t k * e)
abbrev roomR (rs : List (Nat → Int)) : Mat := fun i => rs.getD i (fun _ => 0)
theorem room_mat (n : Nat) (rs : List (Nat → Int)) : rs.map (rowW (n + 1)) = matD rs.length (n + 1) (roomR rs) := by
  unfold matD
  refine List.ext_getElem? fun i => ?_
  by_cases h : i < rs.length
  · rw [rng_get h, List.getElem?_map, List.getElem?_eq_getElem h]
    show some (rowW (n + 1) rs[i]) = some (rowW (n + 1) (rs.getD i _))
    rw [List.getD_eq_getElem?_getD, List.getElem?_eq_getElem h]
    rfl
  · rw [List.getElem?_eq_none (by rw [List.length_map]; omega), List.getElem?_eq_none (by rw [rng_len]; omega)]
/-- within the box -/
def inBx (n : Nat) (bs : List (Option Int × Option Int)) (x : Lp.V) : Prop := ∀ k, k < n → (∀ v, sd bs k 0 = some v → (v : Rat) ≤ x k) ∧ ∀ v, sd bs k 1 = some v → x k ≤ (v : Rat)
section
variable {n : Nat} {bs : List (Option Int × Option Int)} {rs : List (Nat → Int)}
theorem isR_qd {k s : Nat} {r : Nat → Int} (hk : k < n) (h : isR n bs k s r) : ∃ o v : Int, sd bs k s = some v ∧ 1 ≤ o ∧ (∀ x, qd (rq r) x n = ((o * (2 * s - 1) : Int) : Rat) * x k) ∧ r n = o * (2 * s - 1) * v := by
  obtain ⟨o, v, h1, h2, h3, rfl⟩ := h
  refine ⟨o, v, h1, h2, fun x => ?_, if_pos rfl⟩
  rw [qd_one (p := k) hk fun j hj hne => ?_]
  · unfold rq
    dsimp only
    rw [if_neg (by omega), if_pos rfl]
  · unfold rq
    dsimp only
    rw [if_neg (by omega), if_neg hne]
    have : ((0 : Int) : Rat) = 0 := rfl
    grind
theorem isR_le {k s : Nat} {r : Nat → Int} {x : Lp.V} (hk : k < n) (hs : s < 2) (h : isR n bs k s r) : qd (rq r) x n ≤ (r n : Rat) ↔ ∀ v, sd bs k s = some v → if s = 0 then (v : Rat) ≤ x k else x k ≤ (v : Rat) := by
  obtain ⟨o, v, h1, h2, h3, h4⟩ := isR_qd hk h
  rw [h3, h4, show ((o * (2 * (s : Int) - 1) * v : Int) : Rat) = ((o * (2 * (s : Int) - 1) : Int) : Rat) * (v : Rat) from Rat.intCast_mul _ _]
  have op := pos_q (show 0 < o by omega)
  have e1 : ((-1 : Int) : Rat) = -1 := rfl
  have e2 : ((1 : Int) : Rat) = 1 := rfl
  match s, hs with
  | 0, _ =>
    rw [show ((o * (2 * ((0 : Nat) : Int) - 1) : Int) : Rat) = (o : Rat) * -1 from by rw [Rat.intCast_mul]; rfl]
    constructor
    · intro z v' e
      rw [h1] at e; cases e
      rw [if_pos rfl]
      exact Rat.le_of_mul_le_mul_left (by grind) op
    · intro z
      have := z v h1
      rw [if_pos rfl] at this
      have := Rat.mul_le_mul_of_nonneg_left this (Rat.le_of_lt op)
      grind
  | 1, _ =>
    rw [show ((o * (2 * ((1 : Nat) : Int) - 1) : Int) : Rat) = (o : Rat) * 1 from by rw [Rat.intCast_mul]; rfl]
    constructor
    · intro z v' e
      rw [h1] at e; cases e
      rw [if_neg (by decide)]
      exact Rat.le_of_mul_le_mul_left (by grind) op
    · intro z
      have := z v h1
      rw [if_neg (by decide)] at this
      have := Rat.mul_le_mul_of_nonneg_left this (Rat.le_of_lt op)
      grind
theorem bx_feas (hr : okRs n bs rs (2 * n)) {x : Lp.V} : (sysOf rs.length n (roomR rs)).feas x ↔ inBx n bs x := by
  have at_ : ∀ i, i < rs.length → ∃ r ∈ rs, roomR rs i = r := fun i hi => ⟨rs[i], List.getElem_mem hi, by
    show rs.getD i _ = _
    rw [List.getD_eq_getElem?_getD, List.getElem?_eq_getElem hi]
    rfl⟩
  constructor
  · intro f k hk
    have side : ∀ s, s < 2 → ∀ v, sd bs k s = some v → if s = 0 then (v : Rat) ≤ x k else x k ≤ (v : Rat) := fun s hs v hv => by
      obtain ⟨r, hm, hi⟩ := hr.all k s hs (by omega) (by rw [hv]; exact fun z => nomatch z)
      obtain ⟨i, hi1, hi2⟩ := List.getElem_of_mem hm
      have := f i hi1
      have e : roomR rs i = r := by
        show rs.getD i _ = _
        rw [List.getD_eq_getElem?_getD, List.getElem?_eq_getElem hi1, ← hi2]
        rfl
      have this : qd (rq (roomR rs i)) x n ≤ (roomR rs i n : Rat) := this
      rw [e] at this
      exact (isR_le hk hs hi).mp this v hv
    exact ⟨fun v hv => by have := side 0 (by decide) v hv; rw [if_pos rfl] at this; exact this, fun v hv => by have := side 1 (by decide) v hv; rw [if_neg (by decide)] at this; exact this⟩
  · intro f i hi
    obtain ⟨r, hm, e⟩ := at_ i hi
    obtain ⟨k, s, hk, hs, hi⟩ := hr.is r hm
    show qd (rq (roomR rs i)) x n ≤ (roomR rs i n : Rat)
    rw [e]
    refine (isR_le hk hs hi).mpr fun v hv => ?_
    match s, hs with
    | 0, _ => exact (f k hk).1 v hv
    | 1, _ => exact (f k hk).2 v hv
theorem room_bnd (hn : n ≤ 3) (hb : okBx n bs) (hr : okRs n bs rs (2 * n)) (i j : Nat) : bnd 64 (roomR rs i j) := by
  unfold roomR
  rw [List.getD_eq_getElem?_getD]
  cases h : rs[i]? with
  | none => exact bnd_zero
  | some r =>
    obtain ⟨k, s, hk, hs, o, v, h1, h2, h3, rfl⟩ := hr.is r (List.mem_of_getElem? h)
    have bv : bnd 41 v := by
      unfold sd at h1
      rw [List.getD_eq_getElem?_getD] at h1
      cases hq : bs[k]? with
      | none => rw [hq] at h1; split at h1 <;> cases h1
      | some q =>
        rw [hq] at h1
        have hm := List.mem_of_getElem? hq
        split at h1
        · exact bnd_mono (hb.lo q hm v h1) (by decide)
        · exact hb.hi q hm v h1
    have b1 : bnd 20 (o * (2 * s - 1)) := by
      have : s = 0 ∨ s = 1 := by omega
      rcases this with rfl | rfl
      · exact bnd_of (by omega) (by omega)
      · exact bnd_of (by omega) (by omega)
    show bnd 64 (if j = n then o * (2 * s - 1) * v else if j = k then o * (2 * s - 1) else 0)
    split
    · exact bnd_mono (bnd_mul b1 bv) (by decide)
    · split
      · exact bnd_mono b1 (by decide)
      · exact bnd_zero
/-- a point of the box, at the ends that a row wants -/
def ptB (bs : List (Option Int × Option Int)) (t : Nat → Int) : Lp.V := fun k => match sd bs k 0, sd bs k 1 with
  | some l, some h => if 0 < t k then h else l
  | some l, none => l
  | none, some h => h
  | none, none => 0
theorem ptB_in {t : Nat → Int} (h : ∀ q ∈ bs, toldB q = false) : inBx n bs (ptB bs t) := fun k hk => by
  have key : ∀ l h, sd bs k 0 = some l → sd bs k 1 = some h → l ≤ h := fun l hh e1 e2 => by
    unfold sd at e1 e2
    rw [if_pos rfl] at e1
    rw [if_neg (by decide)] at e2
    rw [List.getD_eq_getElem?_getD] at e1 e2
    cases hq : bs[k]? with
    | none => rw [hq] at e1; cases e1
    | some q =>
      rw [hq] at e1 e2
      have e1 : q.1 = some l := e1
      have e2 : q.2 = some hh := e2
      have := h q (List.mem_of_getElem? hq)
      unfold toldB at this
      rw [e1, e2] at this
      exact Int.not_lt.mp (of_decide_eq_false this)
  unfold ptB
  cases e1 : sd bs k 0 with
  | none =>
    cases e2 : sd bs k 1 with
    | none => exact ⟨(fun v e => nomatch e), fun v e => nomatch e⟩
    | some h => exact ⟨(fun v e => nomatch e), fun v e => by cases e; exact Rat.le_refl⟩
  | some l =>
    cases e2 : sd bs k 1 with
    | none => exact ⟨fun v e => by cases e; exact Rat.le_refl, fun v e => nomatch e⟩
    | some h =>
      have := Rat.intCast_le_intCast.mpr (key l h e1 e2)
      dsimp only
      split
      · exact ⟨fun v e => by cases e; exact this, fun v e => by cases e; exact Rat.le_refl⟩
      · exact ⟨fun v e => by cases e; exact Rat.le_refl, fun v e => by cases e; exact this⟩
theorem ptB_due {t : Nat → Int} (hs : ∀ k, n ≤ k → True) : ∀ (k : Nat) (d : Int), dueN bs t k = some d → qd (rq t) (ptB bs t) k = (d : Rat)
  | 0, d, h => by cases h; rfl
  | k + 1, d, h => by
    unfold dueN at h
    cases hd : dueN bs t k with
    | none => rw [hd] at h; cases h
    | some d0 =>
      rw [hd] at h
      dsimp only at h
      have ih := ptB_due hs k d0 hd
      show qd (rq t) (ptB bs t) k + rq t k * ptB bs t k = _
      rw [ih]
      by_cases h0 : t k = 0
      · rw [if_pos h0] at h
        cases h
        unfold rq
        rw [h0]
        have : ((0 : Int) : Rat) = 0 := rfl
        grind
      · rw [if_neg h0] at h
        have ep : ∀ e, sd bs k (if 0 < t k then 1 else 0) = some e → ptB bs t k = (e : Rat) := fun e he => by
          unfold ptB
          by_cases hp : 0 < t k
          · rw [if_pos hp] at he
            rw [he]
            cases sd bs k 0 with
            | none => rfl
            | some l => exact if_pos hp
          · rw [if_neg hp] at he
            rw [he]
            cases sd bs k 1 with
            | none => rfl
            | some l => exact if_neg hp
        cases he : sd bs k (if 0 < t k then 1 else 0) with
        | none => rw [he] at h; cases h
        | some e =>
          rw [he] at h
          cases h
          rw [ep e he, Rat.intCast_add, Rat.intCast_mul]
          rfl
theorem due_le {t : Nat → Int} {x : Lp.V} (hx : inBx n bs x) : ∀ (k : Nat) (d : Int), k ≤ n → dueN bs t k = some d → qd (rq t) x k ≤ (d : Rat)
  | 0, d, _, h => by cases h; exact Rat.le_refl
  | k + 1, d, hk, h => by
    unfold dueN at h
    cases hd : dueN bs t k with
    | none => rw [hd] at h; cases h
    | some d0 =>
      rw [hd] at h
      dsimp only at h
      have ih := due_le hx k d0 (by omega) hd
      obtain ⟨x1, x2⟩ := hx k (by omega)
      show qd (rq t) x k + rq t k * x k ≤ _
      by_cases h0 : t k = 0
      · rw [if_pos h0] at h
        cases h
        rw [show rq t k = ((t k : Int) : Rat) from rfl, h0]
        have : ((0 : Int) : Rat) = 0 := rfl
        grind
      · rw [if_neg h0] at h
        cases he : sd bs k (if 0 < t k then 1 else 0) with
        | none => rw [he] at h; cases h
        | some e =>
          rw [he] at h
          cases h
          rw [Rat.intCast_add, Rat.intCast_mul]
          rw [show rq t k = ((t k : Int) : Rat) from rfl]
          by_cases hp : 0 < t k
          · rw [if_pos hp] at he
            have := Rat.mul_le_mul_of_nonneg_left (x2 e he) (Rat.le_of_lt (pos_q hp))
            grind
          · rw [if_neg hp] at he
            have hn := pos_q (show 0 < -(t k) by omega)
            rw [Rat.intCast_neg] at hn
            have := Rat.mul_le_mul_of_nonneg_left (x1 e he) (Rat.le_of_lt hn)
            grind
theorem due_none {t : Nat → Int} : ∀ (k : Nat), dueN bs t k = none → ∃ j, j < k ∧ t j ≠ 0 ∧ sd bs j (if 0 < t j then 1 else 0) = none
  | 0, h => nomatch h
  | k + 1, h => by
    unfold dueN at h
    cases hd : dueN bs t k with
    | none =>
      obtain ⟨j, h1, h2⟩ := due_none k hd
      exact ⟨j, by omega, h2⟩
    | some d0 =>
      rw [hd] at h
      dsimp only at h
      by_cases h0 : t k = 0
      · rw [if_pos h0] at h; cases h
      · rw [if_neg h0] at h
        cases he : sd bs k (if 0 < t k then 1 else 0) with
        | none => exact ⟨k, by omega, h0, he⟩
        | some e => rw [he] at h; cases h
end
end K62

namespace K62
open PySem PySem.Spec
open PyProof.Rows L2 Dl
local macro_rules | `(tactic| walk_at "rd") => `(tactic| ((conv => whnf); (try dsimp only [startD, wipeD, q_map_cons, q_map_nil, q_app_cons, q_app_nil, q_len_cons, q_len_nil, q_rep_0, q_rep_s, q_get_0, q_get_s, q_set_0, q_set_s, ifP_t, ifP_f, Nat.reduceAdd, Nat.reduceSub, Int.reduceToNat, Int.reducePow, Int.reduceAdd, Int.reduceMul])))
local macro_rules | `(tactic| walk_at "bx") => `(tactic| first | with_reducible assumption | (apply bnd_mul <;> walk_at "bx") | (apply bnd_addM <;> walk_at "bx") | (apply bnd_subM <;> walk_at "bx") | (apply bnd_negM <;> walk_at "bx") | exact bnd_lit (k := 8) (by decide) | exact bnd_lit (k := 64) (by decide) | (with_reducible (apply_assumption)))
local macro_rules | `(tactic| walk_at "bd") => `(tactic| first | with_reducible assumption | (apply bnd_mono; (walk_at "bx"); first | omega | decide))
local macro_rules | `(tactic| walk_at "sd") => `(tactic| first | with_reducible assumption | omega | with_reducible rfl | exact (rfl : (_ : Bool) = true) | exact (rfl : @Eq (Option D) _ none) | decide | exact few_of (by decide) | exact divOk_small (by decide) (by decide +kernel) | exact mulOk_r (by omega) (by omega) | exact mulOk_l (by omega) (by omega) | ((with_reducible apply mul_of); (walk_at "bx"); (walk_at "bx"); first | omega | decide) | exact few_of (by simp only [List.length_append, List.length_map, List.length_cons, List.length_nil, tab_len, List.length_replicate]; omega))
local macro_rules | `(tactic| walk_at "go") => `(tactic| ((try walk_at "rd"); (repeat (refine And.intro (by walk_at "sd") ?_; try walk_at "rd"))))
open Lp
section
variable {n : Nat} {bs : List (Option Int × Option Int)} {rs : List (Nat → Int)}
theorem room_ok (n1 : 1 ≤ n) (n3 : n ≤ 3) (hb : okBx n bs) (hr : okRs n bs rs (2 * n)) : okRm rs.length n 64 (roomR rs) ∧ rs.length + 1 ≤ 14 := by
  have hl : rs.length ≤ 8 := by
    have := hr.len
    split at this <;> omega
  exact ⟨⟨n1, n3, by omega, room_bnd n3 hb hr, by decide, by decide⟩, by omega⟩
theorem em_told (n1 : 1 ≤ n) (n3 : n ≤ 3) (hb : okBx n bs) (hr : okRs n bs rs (2 * n)) {q : Option Int × Option Int} (hq : q ∈ bs) (ht : toldB q = true) : ∃ N, emN rs.length n (roomR rs) = some N := by
  obtain ⟨ok, m1⟩ := room_ok n1 n3 hb hr
  cases he : emN rs.length n (roomR rs) with
  | some N => exact ⟨N, rfl⟩
  | none =>
    exfalso
    obtain ⟨x, hx⟩ := (em_spec ok).2 he
    have hx := (bx_feas hr).mp hx
    obtain ⟨k, hk, e⟩ := List.getElem_of_mem hq
    obtain ⟨a, b⟩ := hx k (by rw [← hb.len]; exact hk)
    unfold sd at a b
    rw [List.getD_eq_getElem?_getD, List.getElem?_eq_getElem hk, e] at a b
    rw [if_pos rfl] at a
    rw [if_neg (by decide)] at b
    unfold toldB at ht
    cases h1 : q.1 with
    | none => rw [h1] at ht; cases ht
    | some l =>
      cases h2 : q.2 with
      | none => rw [h1, h2] at ht; cases ht
      | some h =>
        rw [h1, h2] at ht
        have := Rat.le_trans (a l h1) (b h h2)
        have := Rat.intCast_le_intCast.mp this
        exact absurd (of_decide_eq_true ht) (Int.not_lt.mpr this)
theorem em_not (n1 : 1 ≤ n) (n3 : n ≤ 3) (hb : okBx n bs) (hr : okRs n bs rs (2 * n)) (ht : ∀ q ∈ bs, toldB q = false) : emN rs.length n (roomR rs) = none := by
  obtain ⟨ok, m1⟩ := room_ok n1 n3 hb hr
  cases he : emN rs.length n (roomR rs) with
  | none => rfl
  | some N => exact absurd ((bx_feas hr).mpr (ptB_in (t := fun _ => 0) ht)) (((em_spec ok).1 N he).no _)
theorem ls_none (n1 : 1 ≤ n) (n3 : n ≤ 3) (hb : okBx n bs) (hr : okRs n bs rs (2 * n)) (ht : ∀ q ∈ bs, toldB q = false) {t : Nat → Int} (bt : ∀ j, bnd 64 (t j)) (hd : dueN bs t n = none) : lsN rs.length n (roomR rs) t = none := by
  obtain ⟨ok, m1⟩ := room_ok n1 n3 hb hr
  have he := em_not n1 n3 hb hr ht
  cases hs : lsN rs.length n (roomR rs) t with
  | none => rfl
  | some s =>
    exfalso
    obtain ⟨ps, pss, _, mo⟩ := most_some ok bt he hs
    obtain ⟨j, hj, t0, hsd⟩ := due_none n hd
    have top : ∀ x, inBx n bs x → qd (rq t) x n ≤ (sysOf rs.length n (roomR rs)).cost (yS s) := fun x hx => mo.sh.for_.bound ((bx_feas hr).mpr hx)
    generalize (sysOf rs.length n (roomR rs)).cost (yS s) = v at top
    have base := top _ (ptB_in (t := t) ht)
    have one : ∀ g : Rat, qd (rq t) (fun k => if k = j then g else 0) n = (t j : Rat) * g := fun g => by
      rw [qd_one hj fun k _ hne => by rw [if_neg hne]; grind, if_pos rfl]
      rfl
    obtain ⟨g, hg, ha⟩ : ∃ g : Rat, 1 ≤ (t j : Rat) * g ∧ ∀ c : Rat, 0 ≤ c → inBx n bs (fun k => ptB bs t k + c * (fun k => if k = j then g else 0) k) := by
      by_cases hp : 0 < t j
      · rw [if_pos hp] at hsd
        refine ⟨1, ?_, fun c hc k hk => ?_⟩
        · have := Rat.intCast_le_intCast.mpr (show (1 : Int) ≤ t j by omega)
          have e : ((1 : Int) : Rat) = 1 := rfl
          grind
        · obtain ⟨a, b⟩ := ptB_in ht (t := t) k hk
          by_cases e : k = j
          · subst e
            dsimp only
            rw [if_pos rfl]
            refine ⟨fun w hw => ?_, fun w hw => ?_⟩
            · have := a w hw; grind
            · rw [hsd] at hw; cases hw
          · dsimp only
            rw [if_neg e]
            refine ⟨fun w hw => ?_, fun w hw => ?_⟩
            · have := a w hw; grind
            · have := b w hw; grind
      · rw [if_neg hp] at hsd
        refine ⟨-1, ?_, fun c hc k hk => ?_⟩
        · have := Rat.intCast_le_intCast.mpr (show t j ≤ (-1 : Int) by omega)
          have e : ((-1 : Int) : Rat) = -1 := rfl
          grind
        · obtain ⟨a, b⟩ := ptB_in ht (t := t) k hk
          by_cases e : k = j
          · subst e
            dsimp only
            rw [if_pos rfl]
            refine ⟨fun w hw => ?_, fun w hw => ?_⟩
            · rw [hsd] at hw; cases hw
            · have := b w hw; grind
          · dsimp only
            rw [if_neg e]
            refine ⟨fun w hw => ?_, fun w hw => ?_⟩
            · have := a w hw; grind
            · have := b w hw; grind
    have hc : 0 ≤ v - qd (rq t) (ptB bs t) n + 1 := by grind
    have := top _ (ha _ hc)
    rw [qd_lin_r, one] at this
    have := Rat.mul_le_mul_of_nonneg_left hg hc
    grind
theorem frX_one (d : Int) : frX (d, 1) = (d, 1) := by
  have f := fr_one d
  unfold fr pr at f
  injection f with f
  injection f with f1 f2
  injection f2 with f2 _
  injection f1 with f1
  injection f2 with f2
  exact Prod.ext f1 f2
theorem qv_one (d : Int) : qv (d, 1) = (d : Rat) := by
  unfold qv
  have : ((1 : Int) : Rat) = 1 := rfl
  rw [this]
  grind
theorem ls_some (n1 : 1 ≤ n) (n3 : n ≤ 3) (hb : okBx n bs) (hr : okRs n bs rs (2 * n)) (ht : ∀ q ∈ bs, toldB q = false) {t : Nat → Int} (bt : ∀ j, bnd 64 (t j)) {d : Int} (hd : dueN bs t n = some d) : ∃ s, lsN rs.length n (roomR rs) t = some s ∧ lsV rs.length n (roomR rs) s = (d, 1) := by
  obtain ⟨ok, m1⟩ := room_ok n1 n3 hb hr
  have he := em_not n1 n3 hb hr ht
  have hf : inBx n bs (ptB bs t) := ptB_in ht
  have hv := ptB_due (n := n) (fun _ _ => trivial) n d hd
  cases hs : lsN rs.length n (roomR rs) t with
  | none =>
    exfalso
    obtain ⟨ps, pss, _, co, wy⟩ := most_none ok (okc_of ok bt (by decide) m1) bt he hs
    have f : (sysOf rs.length n (roomR rs)).feas (fun k => ptB bs t k + 1 * rq (wyN rs.length n (roomR rs) t) k) := fun i hi => by
      have h1 : qd (rq (roomR rs i)) (ptB bs t) n ≤ (roomR rs i n : Rat) := (bx_feas hr).mpr hf i hi
      show qd (rq (roomR rs i)) _ n ≤ (roomR rs i n : Rat)
      rw [qd_lin_r, qd_int]
      have := Rat.intCast_le_intCast.mpr (wy.le i hi)
      have e : ((0 : Int) : Rat) = 0 := rfl
      grind
    have := due_le ((bx_feas hr).mp f) n d (Nat.le_refl n) hd
    rw [qd_lin_r, qd_int, hv] at this
    have := pos_q wy.gt
    grind
  | some s =>
    refine ⟨s, rfl, ?_⟩
    obtain ⟨ps, pss, _, mo⟩ := most_some ok bt he hs
    have h1 := due_le ((bx_feas hr).mp mo.cn.feas) n d (Nat.le_refl n) hd
    rw [mo.val] at h1
    have h2 := mo.sh.for_.bound ((bx_feas hr).mpr hf)
    rw [yS_cost mo.sh.pos] at h2
    have h2 : qd (rq t) (ptB bs t) n ≤ _ := h2
    rw [hv] at h2
    have e : qv (lsV rs.length n (roomR rs) s) = qv (d, 1) := by rw [qv_one]; exact Rat.le_antisymm h1 h2
    have p := mo.sh.pos
    rw [← frX_one d]
    unfold lsV at e ⊢
    rw [frX_q (show s.1 ≠ 0 by omega)] at e
    exact (frX_eq p (show (0 : Int) < (d, (1 : Int)).2 from Int.one_pos)).mpr e
end
theorem mostD_em {m n : Nat} {R : Mat} {t N : Nat → Int} (h : emN m n R = some N) : mostD m n R t = .tup [.str "empty", .tup [.int 0, .lst (tabD m N)]] := by
  unfold mostD
  rw [h]
theorem mostD_op {m n : Nat} {R : Mat} {t : Nat → Int} (h : emN m n R = none) (g : lsN m n R t = none) : mostD m n R t = .tup [.str "open", ptsD ((cnN m n R).getD 0 []), .lst (tabD n (wyN m n R t))] := by
  unfold mostD
  rw [h, g]
theorem mostD_mo {m n : Nat} {R : Mat} {t : Nat → Int} {s : Int × (Nat → Int)} (h : emN m n R = none) (g : lsN m n R t = some s) : mostD m n R t = .tup [.str "most", prD (lsV m n R s), .tup [.int s.1, .lst (tabD m s.2)], ptsD (((cnN m n R).filter (Lp.mpB m n R t s)).getD 0 [])] := by
  unfold mostD
  rw [h, g]
theorem due_s (bs : List (Option Int × Option Int)) (t : Nat → Int) (k : Nat) : dueN bs t (k + 1) = match dueN bs t k with
    | none => none
    | some d => if t k = 0 then some d else (sd bs k (if 0 < t k then 1 else 0)).map fun e => d + t k * e := by
  rw [dueN]
  cases dueN bs t k with
  | none => rfl
  | some d =>
    dsimp only
    by_cases h : t k = 0
    · rw [if_pos h, if_pos h]
    · rw [if_neg h, if_neg h]
      cases sd bs k (if 0 < t k then 1 else 0) <;> rfl
theorem due_z {bs : List (Option Int × Option Int)} {t : Nat → Int} {k : Nat} (h : t k = 0) : dueN bs t (k + 1) = dueN bs t k := by
  rw [due_s]
  cases dueN bs t k with
  | none => rfl
  | some d => exact if_pos h
theorem due_n {bs : List (Option Int × Option Int)} {t : Nat → Int} {k : Nat} (h : dueN bs t k = none) : dueN bs t (k + 1) = none := by
  rw [due_s, h]
theorem due_d {bs : List (Option Int × Option Int)} {t : Nat → Int} {k : Nat} {d : Int} (h0 : t k ≠ 0) (h : dueN bs t k = some d) : dueN bs t (k + 1) = (sd bs k (if 0 < t k then 1 else 0)).map fun e => d + t k * e := by
  rw [due_s, h]
  exact if_neg h0
theorem asB_of {Q : Bool → Prop} {d : D} {c : Bool} (e : d = .bl c) (h : Q c) : asB Q d := by
  rw [e]
  exact h
theorem rd_law {K : PySem.W.Frag} (ds : List D) (Q E : EQ) (_ : ds.length = 1) (h : gLaw 63 ds Q E) : tb_law K (dE Q E) (startD N_law ds) := by
  obtain ⟨a, rfl, hl, hba, q⟩ := h
  unfold tb_law dE
  walk_at "go"
  refine ⟨a, 0, rfl, ?_⟩
  have m1 := Int.fmod_nonneg_of_pos (a.getD 0 0) (show (0 : Int) < 3 by decide)
  have m2 := Int.fmod_lt_of_pos (a.getD 0 0) (show (0 : Int) < 3 by decide)
  obtain ⟨n, hM⟩ := Int.eq_ofNat_of_zero_le (show 0 ≤ 1 + (a.getD 0 0).fmod 3 by omega)
  have h1 : 1 ≤ n := by omega
  have h3 : n ≤ 3 := by omega
  walk_at "go"
  rw [hM]
  walk_at "go"
  refine ⟨a, 1, rfl, ?_⟩
  walk_at "go"
  refine ⟨_, n, rfl, h1, h3, fun bs hb => ?_⟩
  walk_at "go"
  refine ⟨a, 2, rfl, ?_⟩
  walk_at "go"
  refine ⟨bs, _, n, rfl, h1, h3, hb, fun rs hr => ?_⟩
  walk_at "go"
  refine ⟨a, 0, rfl, ?_⟩
  walk_at "go"
  have ez : cut (a.map D.int) (some 3) (some 6) ++ [D.int (a.getD 0 0)] = (cut a (some 3) (some 6) ++ [a.getD 0 0]).map D.int := by
    rw [List.map_append, cut_map]
    rfl
  rw [ez]
  generalize hzs : cut a (some 3) (some 6) ++ [a.getD 0 0] = zs
  have lz : zs.length ≤ 64 := by
    rw [← hzs, List.length_append]
    unfold cut
    rw [List.length_take, List.length_drop]
    show _ + 1 ≤ 64
    omega
  refine ⟨few_of (by rw [List.length_map]; omega), ?_⟩
  refine loop_ix (fun k ρ => ∃ s4 s5 s6 s7 s8 s9 s10 s11 s12 s13, ρ = [.sh (.frl (a.map .int)), .sh (.int n), .sh (.lst (bs.map bxD)), .sh (.lst (rs.map (rowW (n + 1)))), s4, s5, s6, s7, s8, s9, s10, s11, s12, s13]) _ ?_ ?_ ⟨_, _, _, _, _, _, _, _, _, _, rfl⟩
  · rintro ρ ⟨s4, s5, s6, s7, s8, s9, s10, s11, s12, s13, rfl⟩
    walk_at "go"
    exact q
  · rintro k x ρ hx ⟨s4, s5, s6, s7, s8, s9, s10, s11, s12, s13, rfl⟩ N hN
    obtain ⟨z, hz, rfl⟩ : ∃ z, zs[k]? = some z ∧ x = .int z := by
      rw [List.getElem?_map] at hx
      cases hzk : zs[k]? with
      | none => rw [hzk] at hx; cases hx
      | some z => rw [hzk] at hx; cases hx; exact ⟨z, rfl, rfl⟩
    walk_at "go"
    refine ⟨z, n, rfl, by omega, fun X hX => ?_⟩
    walk_at "go"
    refine compL_ints (fun r => -(10 ^ 9) < r ∧ r < 10 ^ 9) _ [] (fun e he K1 K0 hK => ?_) fun ys yl yb => ?_
    · obtain ⟨j, hj⟩ := List.getElem?_of_mem he
      obtain ⟨_, rfl⟩ := tab_inv hj
      walk_at "go"
      refine ⟨_, rfl, fun r r1 r2 => ?_⟩
      walk_at "go"
      exact hK _ ⟨r1, r2⟩
    rw [tab_len] at yl
    rw [List.nil_append, tab_list ys, yl]
    obtain ⟨t, et, etn⟩ : ∃ t : Nat → Int, (t = fun j => if j = n then z.fmod 5 else ys.getD j 0) ∧ tabD n (fun j => ys.getD j 0) = tabD n t := ⟨_, rfl, tab_congr fun j hj => by rw [if_neg (by omega)]⟩
    have bt : ∀ j, bnd 64 (t j) := fun j => by
      rw [et]
      dsimp only
      split
      · have := Int.fmod_nonneg_of_pos z (show (0 : Int) < 5 by decide)
        have := Int.fmod_lt_of_pos z (show (0 : Int) < 5 by decide)
        exact bnd_of (by omega) (by omega)
      · rw [List.getD_eq_getElem?_getD]
        cases hy : ys[j]? with
        | none => exact bnd_zero
        | some y =>
          obtain ⟨y1, y2⟩ := yb y (List.mem_of_getElem? hy)
          exact bnd_of (show -(2 ^ 64) < y by omega) (show y < 2 ^ 64 by omega)
    have ets : tabD n t ++ [D.int (z.fmod 5)] = tabD (n + 1) t := by
      rw [← etn, tab_snoc]
      exact tab_congr fun j hj => by rw [et]
    rw [etn]
    walk_at "go"
    rw [Int.toNat_natCast, irg0]
    refine loop_ix (fun k ρ => ∃ s8 s9, ρ = [.sh (.frl (a.map .int)), .sh (.int n), .sh (.lst (bs.map bxD)), .sh (.lst (rs.map (rowW (n + 1)))), .sh (.int z), .sh (.lst (tabD n t)), s6, .sh (opD (dueN bs t k)), s8, s9, s10, s11, s12, s13]) _ ?_ ?_ ⟨_, _, rfl⟩
    rotate_left
    · rintro k x ρ hx ⟨s8, s9, rfl⟩ N' hN'
      obtain ⟨hk, rfl⟩ := rng_inv hx
      have hat : atI (tabD n t) (k : Int) = some (.int (t k)) := by rw [atI_nn, tab_get hk]
      obtain ⟨qk, hqk, hbk⟩ : ∃ qk, bs[k]? = some qk ∧ atI (bs.map bxD) (k : Int) = some (.lst [opD qk.1, opD qk.2]) := by
        have : bs[k]? = some (bs[k]'(by rw [hb.len]; exact hk)) := List.getElem?_eq_getElem _
        exact ⟨_, this, by rw [atI_nn, List.getElem?_map, this]; rfl⟩
      have next : ∀ s8 s9, N' [.sh (.frl (a.map .int)), .sh (.int n), .sh (.lst (bs.map bxD)), .sh (.lst (rs.map (rowW (n + 1)))), .sh (.int z), .sh (.lst (tabD n t)), s6, .sh (opD (dueN bs t (k + 1))), s8, s9, s10, s11, s12, s13] := fun s8 s9 => hN' _ ⟨s8, s9, rfl⟩
      have bk := bt k
      have hsd : ∀ b : Bool, atI [opD qk.1, opD qk.2] (if b = true then 1 else 0) = some (opD (sd bs k (if b = true then 1 else 0))) := fun b => by
        unfold sd
        rw [List.getD_eq_getElem?_getD, hqk]
        cases b <;> rfl
      have hov : ∀ s v, sd bs k s = some v → bnd 41 v := fun s v e => by
        unfold sd at e
        rw [List.getD_eq_getElem?_getD, hqk] at e
        have hm := List.mem_of_getElem? hqk
        split at e
        · exact bnd_mono (hb.lo _ hm v e) (by decide)
        · exact hb.hi _ hm v e
      walk_at "go"
      rw [hat]
      walk_at "go"
      by_cases h0 : t k = 0
      · rw [decide_eq_true h0]
        rw [due_z h0] at next
        walk_at "go"
        exact next _ _
      rw [decide_eq_false h0]
      cases hd : dueN bs t k with
      | none =>
        rw [due_n hd] at next
        unfold opD at next ⊢
        walk_at "go"
        exact next _ _
      | some d =>
        rw [due_d h0 hd] at next
        rw [show opD (some d) = .int d from rfl]
        walk_at "go"
        rw [hbk]
        walk_at "go"
        rw [hat]
        walk_at "go"
        rw [hsd]
        have en : (if decide (0 < t k) = true then 1 else 0 : Nat) = if 0 < t k then 1 else 0 := by
          by_cases h : 0 < t k
          · rw [if_pos h, decide_eq_true h]; rfl
          · rw [if_neg h, decide_eq_false h]; rfl
        rw [en]
        cases hs : sd bs k (if 0 < t k then 1 else 0) with
        | none =>
          rw [hs] at next
          walk_at "go"
          exact next _ _
        | some v =>
          rw [hs] at next
          have bv := hov _ v hs
          have m3 := mul_of bk bv (by decide)
          walk_at "go"
          rw [hat]
          walk_at "go"
          exact next _ _
    rintro ρ ⟨s8, s9, rfl⟩
    rw [rng_len]
    obtain ⟨ok, m1'⟩ := room_ok h1 h3 hb hr
    walk_at "go"
    rw [ets, room_mat]
    walk_at "go"
    refine ⟨rs.length, n, 64, roomR rs, t, rfl, ok, m1', bt, by decide, ?_⟩
    walk_at "go"
    refine compL_fil bxD (fun q => opD q.1) toldB bs (fun q hq K1 K0 h1 h0 => ?_) ?_
    · obtain ⟨l, h⟩ := q
      have h1 : toldB (l, h) = true → K1 (opD l) := h1
      unfold toldB at h1 h0
      unfold bxD
      cases l with
      | none =>
        unfold opD
        walk_at "go"
        exact h0 rfl
      | some l =>
        cases h with
        | none =>
          unfold opD
          walk_at "go"
          exact h0 rfl
        | some h =>
          dsimp only at h1 h0
          unfold opD at h1 ⊢
          walk_at "go"
          by_cases hz : h < l
          · rw [decide_eq_true hz] at h1 ⊢
            walk_at "go"
            exact h1 rfl
          · rw [decide_eq_false hz] at h0 ⊢
            walk_at "go"
            exact h0 rfl
    have next : ∀ s5 s7 s8 s9 s10 s11 s12 s13, N [.sh (.frl (a.map .int)), .sh (.int n), .sh (.lst (bs.map bxD)), .sh (.lst (matD rs.length (n + 1) (roomR rs))), .sh (.int z), s5, s6, s7, s8, s9, s10, s11, s12, s13] := fun s5 s7 s8 s9 s10 s11 s12 s13 => hN _ ⟨_, s5, s6, s7, s8, s9, s10, s11, s12, s13, by rw [room_mat]⟩
    have pE : Dl.plain (D.lst []) := plain_of rfl
    have eE : (D.lst []).py.eqv (D.lst []).py = true := rfl
    have sOE : decide (Str.ofString "open" = Str.ofString "empty") = false := by decide
    have sME : decide (Str.ofString "most" = Str.ofString "empty") = false := by decide
    have sEE : decide (Str.ofString "empty" = Str.ofString "empty") = true := by decide
    have sOO : decide (Str.ofString "open" = Str.ofString "open") = true := by decide
    by_cases htd : bs.filter toldB = []
    · rw [htd]
      have hnt : ∀ q ∈ bs, toldB q = false := fun q hq => by
        cases hb : toldB q with
        | false => rfl
        | true =>
          have : q ∈ bs.filter toldB := List.mem_filter.mpr ⟨hq, hb⟩
          rw [htd] at this
          cases this
      have he := em_not h1 h3 hb hr hnt
      cases hd : dueN bs t n with
      | none =>
        have hs := ls_none h1 h3 hb hr hnt bt hd
        rw [mostD_op he hs]
        unfold opD
        walk_at "go"
        exact next _ _ _ _ _ _ _ _
      | some d =>
        obtain ⟨s, hs, hv⟩ := ls_some h1 h3 hb hr hnt bt hd
        rw [mostD_mo he hs, hv]
        unfold opD
        walk_at "go"
        have so : PyData.strOk (Str.ofString "most") = true := by decide +kernel
        have pM : (D.tup [D.str (Str.ofString "most"), D.tup [D.int d, D.int 1]]).okk 64 = true := by
          show (PyData.strOk (Str.ofString "most") && _) = true
          rw [so]
          rfl
        refine ⟨plain_of pM, plain_of pM, ?_⟩
        refine asB_of (c := false) (congrArg (fun b => D.bl (!b)) (eqv_self _ _ pM)) ?_
        walk_at "go"
        exact next _ _ _ _ _ _ _ _
    · obtain ⟨q0, ql, hql⟩ : ∃ q0 ql, bs.filter toldB = q0 :: ql := by
        cases hf : bs.filter toldB with
        | nil => exact absurd hf htd
        | cons q ql => exact ⟨q, ql, rfl⟩
      obtain ⟨m0, t0⟩ := List.mem_filter.mp (show q0 ∈ bs.filter toldB by rw [hql]; exact List.mem_cons_self)
      obtain ⟨N0, he⟩ := em_told h1 h3 hb hr m0 t0
      rw [mostD_em he, hql]
      have pL : (D.lst ((q0 :: ql).map fun q => opD q.1)).okk 64 = true := by
        unfold D.okk
        exact okks_all fun d hd => by
          obtain ⟨q, _, rfl⟩ := List.mem_map.mp hd
          cases q.1 <;> rfl
      have eN : (D.lst ((q0 :: ql).map fun q => opD q.1)).py.eqv (D.lst []).py = false := rfl
      have pL := plain_of pL
      rw [List.map_cons] at pL eN
      walk_at "go"
      exact next _ _ _ _ _ _ _ _
end K62

namespace K62
open PySem PySem.Spec
open PyProof.Rows L2 Dl
theorem all_mk {l : PySem.W.OpenLaw} {w : World} {K : PySem.W.Frag} {h : Heap} {mg : Str → Option Value} {fa f0 f1 f2 f3 f4 f5 f6 f7 f8 f9 f10 f11 f12 f13 f14 f15 f16 f17 f18 f19 f20 f21 f22 f23 f24 f25 f26 f27 f28 f29 f30 f31  : Addr} (X : K.In h) (G : h.Ns mainGlobals mg) (hfa : mg "law" = some (.ref fa))
    {oc0 kV0 doc0 pm0 cd0 ct0 : Value} {od0 an0 : Option Addr} {sl0 : Array (Option Value)}
    {oc1 kV1 doc1 pm1 cd1 ct1 : Value} {od1 an1 : Option Addr} {sl1 : Array (Option Value)}
    {dT2 : Addr} {tc2 : Value} {td2 : Option Addr} {tn2 : Nat} {ts2 : Array (Option Value)} {tk2_0 : Tok}
    {oc2 kV2 doc2 pm2 cd2 ct2 : Value} {od2 an2 : Option Addr} {sl2 : Array (Option Value)}
    {oc3 kV3 doc3 pm3 cd3 ct3 : Value} {od3 an3 : Option Addr} {sl3 : Array (Option Value)}
    {oc4 kV4 doc4 pm4 cd4 ct4 : Value} {od4 an4 : Option Addr} {sl4 : Array (Option Value)}
    {oc5 kV5 doc5 pm5 cd5 ct5 : Value} {od5 an5 : Option Addr} {sl5 : Array (Option Value)}
    {oc6 kV6 doc6 pm6 cd6 ct6 : Value} {od6 an6 : Option Addr} {sl6 : Array (Option Value)}
    {oc7 kV7 doc7 pm7 cd7 ct7 : Value} {od7 an7 : Option Addr} {sl7 : Array (Option Value)}
    {oc8 kV8 doc8 pm8 cd8 ct8 : Value} {od8 an8 : Option Addr} {sl8 : Array (Option Value)}
    {oc9 kV9 doc9 pm9 cd9 ct9 : Value} {od9 an9 : Option Addr} {sl9 : Array (Option Value)}
    {oc10 kV10 doc10 pm10 cd10 ct10 : Value} {od10 an10 : Option Addr} {sl10 : Array (Option Value)}
    {oc11 kV11 doc11 pm11 cd11 ct11 : Value} {od11 an11 : Option Addr} {sl11 : Array (Option Value)}
    {oc12 kV12 doc12 pm12 cd12 ct12 : Value} {od12 an12 : Option Addr} {sl12 : Array (Option Value)}
    {oc13 kV13 doc13 pm13 cd13 ct13 : Value} {od13 an13 : Option Addr} {sl13 : Array (Option Value)}
    {oc14 kV14 doc14 pm14 cd14 ct14 : Value} {od14 an14 : Option Addr} {sl14 : Array (Option Value)}
    {oc15 kV15 doc15 pm15 cd15 ct15 : Value} {od15 an15 : Option Addr} {sl15 : Array (Option Value)}
    {oc16 kV16 doc16 pm16 cd16 ct16 : Value} {od16 an16 : Option Addr} {sl16 : Array (Option Value)}
    {oc17 kV17 doc17 pm17 cd17 ct17 : Value} {od17 an17 : Option Addr} {sl17 : Array (Option Value)}
    {oc18 kV18 doc18 pm18 cd18 ct18 : Value} {od18 an18 : Option Addr} {sl18 : Array (Option Value)}
    {oc19 kV19 doc19 pm19 cd19 ct19 : Value} {od19 an19 : Option Addr} {sl19 : Array (Option Value)}
    {oc20 kV20 doc20 pm20 cd20 ct20 : Value} {od20 an20 : Option Addr} {sl20 : Array (Option Value)}
    {oc21 kV21 doc21 pm21 cd21 ct21 : Value} {od21 an21 : Option Addr} {sl21 : Array (Option Value)}
    {oc22 kV22 doc22 pm22 cd22 ct22 : Value} {od22 an22 : Option Addr} {sl22 : Array (Option Value)}
    {oc23 kV23 doc23 pm23 cd23 ct23 : Value} {od23 an23 : Option Addr} {sl23 : Array (Option Value)}
    {oc24 kV24 doc24 pm24 cd24 ct24 : Value} {od24 an24 : Option Addr} {sl24 : Array (Option Value)}
    {oc25 kV25 doc25 pm25 cd25 ct25 : Value} {od25 an25 : Option Addr} {sl25 : Array (Option Value)}
    {oc26 kV26 doc26 pm26 cd26 ct26 : Value} {od26 an26 : Option Addr} {sl26 : Array (Option Value)}
    {oc27 kV27 doc27 pm27 cd27 ct27 : Value} {od27 an27 : Option Addr} {sl27 : Array (Option Value)}
    {oc28 kV28 doc28 pm28 cd28 ct28 : Value} {od28 an28 : Option Addr} {sl28 : Array (Option Value)}
    {oc29 kV29 doc29 pm29 cd29 ct29 : Value} {od29 an29 : Option Addr} {sl29 : Array (Option Value)}
    {oc30 kV30 doc30 pm30 cd30 ct30 : Value} {od30 an30 : Option Addr} {sl30 : Array (Option Value)}
    {oc31 kV31 doc31 pm31 cd31 ct31 : Value} {od31 an31 : Option Addr} {sl31 : Array (Option Value)}
    (a0 : PySem.W.nsIn K mainGlobals "is_whole" = some (some (.ref f0)))
    (l0 : K.lookup f0 = some ⟨oc0, od0, .func (PySem.W.fnOf "is_whole" "is_whole" (defArgs s_is_whole) (defBody s_is_whole) (defScope s_is_whole) .none kV0 doc0 pm0 an0 cd0 ct0), sl0⟩)
    (c0 : PySem.W.codeIn K cd0 "is_whole" = true)
    (k0 : PySem.W.keepIn K (.ref f0) = true)
    (a1 : PySem.W.nsIn K mainGlobals "common" = some (some (.ref f1)))
    (l1 : K.lookup f1 = some ⟨oc1, od1, .func (PySem.W.fnOf "common" "common" (defArgs s_common) (defBody s_common) (defScope s_common) .none kV1 doc1 pm1 an1 cd1 ct1), sl1⟩)
    (c1 : PySem.W.codeIn K cd1 "common" = true)
    (k1 : PySem.W.keepIn K (.ref f1) = true)
    (a2 : PySem.W.nsIn K mainGlobals "fraction" = some (some (.ref f2)))
    (l2 : K.lookup f2 = some ⟨oc2, od2, .func (PySem.W.fnOf "fraction" "fraction" (defArgs s_fraction) (defBody s_fraction) (defScope s_fraction) (.ref dT2) kV2 doc2 pm2 an2 cd2 ct2), sl2⟩)
    (c2 : PySem.W.codeIn K cd2 "fraction" = true)
    (k2 : PySem.W.keepIn K (.ref f2) = true)
    (t2 : K.lookup dT2 = some ⟨tc2, td2, .seq #[.int 1 tk2_0] tn2, ts2⟩)
    (a3 : PySem.W.nsIn K mainGlobals "plus" = some (some (.ref f3)))
    (l3 : K.lookup f3 = some ⟨oc3, od3, .func (PySem.W.fnOf "plus" "plus" (defArgs s_plus) (defBody s_plus) (defScope s_plus) .none kV3 doc3 pm3 an3 cd3 ct3), sl3⟩)
    (c3 : PySem.W.codeIn K cd3 "plus" = true)
    (k3 : PySem.W.keepIn K (.ref f3) = true)
    (a4 : PySem.W.nsIn K mainGlobals "times" = some (some (.ref f4)))
    (l4 : K.lookup f4 = some ⟨oc4, od4, .func (PySem.W.fnOf "times" "times" (defArgs s_times) (defBody s_times) (defScope s_times) .none kV4 doc4 pm4 an4 cd4 ct4), sl4⟩)
    (c4 : PySem.W.codeIn K cd4 "times" = true)
    (k4 : PySem.W.keepIn K (.ref f4) = true)
    (a5 : PySem.W.nsIn K mainGlobals "under" = some (some (.ref f5)))
    (l5 : K.lookup f5 = some ⟨oc5, od5, .func (PySem.W.fnOf "under" "under" (defArgs s_under) (defBody s_under) (defScope s_under) .none kV5 doc5 pm5 an5 cd5 ct5), sl5⟩)
    (c5 : PySem.W.codeIn K cd5 "under" = true)
    (k5 : PySem.W.keepIn K (.ref f5) = true)
    (a6 : PySem.W.nsIn K mainGlobals "along" = some (some (.ref f6)))
    (l6 : K.lookup f6 = some ⟨oc6, od6, .func (PySem.W.fnOf "along" "along" (defArgs s_along) (defBody s_along) (defScope s_along) .none kV6 doc6 pm6 an6 cd6 ct6), sl6⟩)
    (c6 : PySem.W.codeIn K cd6 "along" = true)
    (k6 : PySem.W.keepIn K (.ref f6) = true)
    (a7 : PySem.W.nsIn K mainGlobals "holds" = some (some (.ref f7)))
    (l7 : K.lookup f7 = some ⟨oc7, od7, .func (PySem.W.fnOf "holds" "holds" (defArgs s_holds) (defBody s_holds) (defScope s_holds) .none kV7 doc7 pm7 an7 cd7 ct7), sl7⟩)
    (c7 : PySem.W.codeIn K cd7 "holds" = true)
    (k7 : PySem.W.keepIn K (.ref f7) = true)
    (a8 : PySem.W.nsIn K mainGlobals "lies_in" = some (some (.ref f8)))
    (l8 : K.lookup f8 = some ⟨oc8, od8, .func (PySem.W.fnOf "lies_in" "lies_in" (defArgs s_lies_in) (defBody s_lies_in) (defScope s_lies_in) .none kV8 doc8 pm8 an8 cd8 ct8), sl8⟩)
    (c8 : PySem.W.codeIn K cd8 "lies_in" = true)
    (k8 : PySem.W.keepIn K (.ref f8) = true)
    (a9 : PySem.W.nsIn K mainGlobals "divisor_of" = some (some (.ref f9)))
    (l9 : K.lookup f9 = some ⟨oc9, od9, .func (PySem.W.fnOf "divisor_of" "divisor_of" (defArgs s_divisor_of) (defBody s_divisor_of) (defScope s_divisor_of) .none kV9 doc9 pm9 an9 cd9 ct9), sl9⟩)
    (c9 : PySem.W.codeIn K cd9 "divisor_of" = true)
    (k9 : PySem.W.keepIn K (.ref f9) = true)
    (a10 : PySem.W.nsIn K mainGlobals "lowest" = some (some (.ref f10)))
    (l10 : K.lookup f10 = some ⟨oc10, od10, .func (PySem.W.fnOf "lowest" "lowest" (defArgs s_lowest) (defBody s_lowest) (defScope s_lowest) .none kV10 doc10 pm10 an10 cd10 ct10), sl10⟩)
    (c10 : PySem.W.codeIn K cd10 "lowest" = true)
    (k10 : PySem.W.keepIn K (.ref f10) = true)
    (a11 : PySem.W.nsIn K mainGlobals "added" = some (some (.ref f11)))
    (l11 : K.lookup f11 = some ⟨oc11, od11, .func (PySem.W.fnOf "added" "added" (defArgs s_added) (defBody s_added) (defScope s_added) .none kV11 doc11 pm11 an11 cd11 ct11), sl11⟩)
    (c11 : PySem.W.codeIn K cd11 "added" = true)
    (k11 : PySem.W.keepIn K (.ref f11) = true)
    (a12 : PySem.W.nsIn K mainGlobals "crossed" = some (some (.ref f12)))
    (l12 : K.lookup f12 = some ⟨oc12, od12, .func (PySem.W.fnOf "crossed" "crossed" (defArgs s_crossed) (defBody s_crossed) (defScope s_crossed) .none kV12 doc12 pm12 an12 cd12 ct12), sl12⟩)
    (c12 : PySem.W.codeIn K cd12 "crossed" = true)
    (k12 : PySem.W.keepIn K (.ref f12) = true)
    (a13 : PySem.W.nsIn K mainGlobals "first_with" = some (some (.ref f13)))
    (l13 : K.lookup f13 = some ⟨oc13, od13, .func (PySem.W.fnOf "first_with" "first_with" (defArgs s_first_with) (defBody s_first_with) (defScope s_first_with) .none kV13 doc13 pm13 an13 cd13 ct13), sl13⟩)
    (c13 : PySem.W.codeIn K cd13 "first_with" = true)
    (k13 : PySem.W.keepIn K (.ref f13) = true)
    (a14 : PySem.W.nsIn K mainGlobals "reduced" = some (some (.ref f14)))
    (l14 : K.lookup f14 = some ⟨oc14, od14, .func (PySem.W.fnOf "reduced" "reduced" (defArgs s_reduced) (defBody s_reduced) (defScope s_reduced) .none kV14 doc14 pm14 an14 cd14 ct14), sl14⟩)
    (c14 : PySem.W.codeIn K cd14 "reduced" = true)
    (k14 : PySem.W.keepIn K (.ref f14) = true)
    (a15 : PySem.W.nsIn K mainGlobals "solution" = some (some (.ref f15)))
    (l15 : K.lookup f15 = some ⟨oc15, od15, .func (PySem.W.fnOf "solution" "solution" (defArgs s_solution) (defBody s_solution) (defScope s_solution) .none kV15 doc15 pm15 an15 cd15 ct15), sl15⟩)
    (c15 : PySem.W.codeIn K cd15 "solution" = true)
    (k15 : PySem.W.keepIn K (.ref f15) = true)
    (a16 : PySem.W.nsIn K mainGlobals "choices" = some (some (.ref f16)))
    (l16 : K.lookup f16 = some ⟨oc16, od16, .func (PySem.W.fnOf "choices" "choices" (defArgs s_choices) (defBody s_choices) (defScope s_choices) .none kV16 doc16 pm16 an16 cd16 ct16), sl16⟩)
    (c16 : PySem.W.codeIn K cd16 "choices" = true)
    (k16 : PySem.W.keepIn K (.ref f16) = true)
    (a17 : PySem.W.nsIn K mainGlobals "turned_rows" = some (some (.ref f17)))
    (l17 : K.lookup f17 = some ⟨oc17, od17, .func (PySem.W.fnOf "turned_rows" "turned_rows" (defArgs s_turned_rows) (defBody s_turned_rows) (defScope s_turned_rows) .none kV17 doc17 pm17 an17 cd17 ct17), sl17⟩)
    (c17 : PySem.W.codeIn K cd17 "turned_rows" = true)
    (k17 : PySem.W.keepIn K (.ref f17) = true)
    (a18 : PySem.W.nsIn K mainGlobals "made_whole" = some (some (.ref f18)))
    (l18 : K.lookup f18 = some ⟨oc18, od18, .func (PySem.W.fnOf "made_whole" "made_whole" (defArgs s_made_whole) (defBody s_made_whole) (defScope s_made_whole) .none kV18 doc18 pm18 an18 cd18 ct18), sl18⟩)
    (c18 : PySem.W.codeIn K cd18 "made_whole" = true)
    (k18 : PySem.W.keepIn K (.ref f18) = true)
    (a19 : PySem.W.nsIn K mainGlobals "shares_by" = some (some (.ref f19)))
    (l19 : K.lookup f19 = some ⟨oc19, od19, .func (PySem.W.fnOf "shares_by" "shares_by" (defArgs s_shares_by) (defBody s_shares_by) (defScope s_shares_by) .none kV19 doc19 pm19 an19 cd19 ct19), sl19⟩)
    (c19 : PySem.W.codeIn K cd19 "shares_by" = true)
    (k19 : PySem.W.keepIn K (.ref f19) = true)
    (a20 : PySem.W.nsIn K mainGlobals "ring_of" = some (some (.ref f20)))
    (l20 : K.lookup f20 = some ⟨oc20, od20, .func (PySem.W.fnOf "ring_of" "ring_of" (defArgs s_ring_of) (defBody s_ring_of) (defScope s_ring_of) .none kV20 doc20 pm20 an20 cd20 ct20), sl20⟩)
    (c20 : PySem.W.codeIn K cd20 "ring_of" = true)
    (k20 : PySem.W.keepIn K (.ref f20) = true)
    (a21 : PySem.W.nsIn K mainGlobals "empty_by" = some (some (.ref f21)))
    (l21 : K.lookup f21 = some ⟨oc21, od21, .func (PySem.W.fnOf "empty_by" "empty_by" (defArgs s_empty_by) (defBody s_empty_by) (defScope s_empty_by) .none kV21 doc21 pm21 an21 cd21 ct21), sl21⟩)
    (c21 : PySem.W.codeIn K cd21 "empty_by" = true)
    (k21 : PySem.W.keepIn K (.ref f21) = true)
    (a22 : PySem.W.nsIn K mainGlobals "corners" = some (some (.ref f22)))
    (l22 : K.lookup f22 = some ⟨oc22, od22, .func (PySem.W.fnOf "corners" "corners" (defArgs s_corners) (defBody s_corners) (defScope s_corners) .none kV22 doc22 pm22 an22 cd22 ct22), sl22⟩)
    (c22 : PySem.W.codeIn K cd22 "corners" = true)
    (k22 : PySem.W.keepIn K (.ref f22) = true)
    (a23 : PySem.W.nsIn K mainGlobals "way_out" = some (some (.ref f23)))
    (l23 : K.lookup f23 = some ⟨oc23, od23, .func (PySem.W.fnOf "way_out" "way_out" (defArgs s_way_out) (defBody s_way_out) (defScope s_way_out) .none kV23 doc23 pm23 an23 cd23 ct23), sl23⟩)
    (c23 : PySem.W.codeIn K cd23 "way_out" = true)
    (k23 : PySem.W.keepIn K (.ref f23) = true)
    (a24 : PySem.W.nsIn K mainGlobals "least_shares" = some (some (.ref f24)))
    (l24 : K.lookup f24 = some ⟨oc24, od24, .func (PySem.W.fnOf "least_shares" "least_shares" (defArgs s_least_shares) (defBody s_least_shares) (defScope s_least_shares) .none kV24 doc24 pm24 an24 cd24 ct24), sl24⟩)
    (c24 : PySem.W.codeIn K cd24 "least_shares" = true)
    (k24 : PySem.W.keepIn K (.ref f24) = true)
    (a25 : PySem.W.nsIn K mainGlobals "most" = some (some (.ref f25)))
    (l25 : K.lookup f25 = some ⟨oc25, od25, .func (PySem.W.fnOf "most" "most" (defArgs s_most) (defBody s_most) (defScope s_most) .none kV25 doc25 pm25 an25 cd25 ct25), sl25⟩)
    (c25 : PySem.W.codeIn K cd25 "most" = true)
    (k25 : PySem.W.keepIn K (.ref f25) = true)
    (a26 : PySem.W.nsIn K mainGlobals "_law_cell_at" = some (some (.ref f26)))
    (l26 : K.lookup f26 = some ⟨oc26, od26, .func (PySem.W.fnOf "_law_cell_at" "_law_cell_at" (defArgs s__law_cell_at) (defBody s__law_cell_at) (defScope s__law_cell_at) .none kV26 doc26 pm26 an26 cd26 ct26), sl26⟩)
    (c26 : PySem.W.codeIn K cd26 "_law_cell_at" = true)
    (k26 : PySem.W.keepIn K (.ref f26) = true)
    (a27 : PySem.W.nsIn K mainGlobals "_law_stream" = some (some (.ref f27)))
    (l27 : K.lookup f27 = some ⟨oc27, od27, .func (PySem.W.fnOf "_law_stream" "_law_stream" (defArgs s__law_stream) (defBody s__law_stream) (defScope s__law_stream) .none kV27 doc27 pm27 an27 cd27 ct27), sl27⟩)
    (c27 : PySem.W.codeIn K cd27 "_law_stream" = true)
    (k27 : PySem.W.keepIn K (.ref f27) = true)
    (a28 : PySem.W.nsIn K mainGlobals "_law_number" = some (some (.ref f28)))
    (l28 : K.lookup f28 = some ⟨oc28, od28, .func (PySem.W.fnOf "_law_number" "_law_number" (defArgs s__law_number) (defBody s__law_number) (defScope s__law_number) .none kV28 doc28 pm28 an28 cd28 ct28), sl28⟩)
    (c28 : PySem.W.codeIn K cd28 "_law_number" = true)
    (k28 : PySem.W.keepIn K (.ref f28) = true)
    (a29 : PySem.W.nsIn K mainGlobals "_law_box" = some (some (.ref f29)))
    (l29 : K.lookup f29 = some ⟨oc29, od29, .func (PySem.W.fnOf "_law_box" "_law_box" (defArgs s__law_box) (defBody s__law_box) (defScope s__law_box) .none kV29 doc29 pm29 an29 cd29 ct29), sl29⟩)
    (c29 : PySem.W.codeIn K cd29 "_law_box" = true)
    (k29 : PySem.W.keepIn K (.ref f29) = true)
    (a30 : PySem.W.nsIn K mainGlobals "_law_room" = some (some (.ref f30)))
    (l30 : K.lookup f30 = some ⟨oc30, od30, .func (PySem.W.fnOf "_law_room" "_law_room" (defArgs s__law_room) (defBody s__law_room) (defScope s__law_room) .none kV30 doc30 pm30 an30 cd30 ct30), sl30⟩)
    (c30 : PySem.W.codeIn K cd30 "_law_room" = true)
    (k30 : PySem.W.keepIn K (.ref f30) = true)
    (a31 : PySem.W.nsIn K mainGlobals "law" = some (some (.ref f31)))
    (l31 : K.lookup f31 = some ⟨oc31, od31, .func (PySem.W.fnOf "law" "law" (defArgs s_law) (defBody s_law) (defScope s_law) .none kV31 doc31 pm31 an31 cd31 ct31), sl31⟩)
    (c31 : PySem.W.codeIn K cd31 "law" = true)
    (k31 : PySem.W.keepIn K (.ref f31) = true)
    (z0 : PySem.W.nsIn K mainGlobals "abs" = some none)
    (z1 : PySem.W.nsIn K mainGlobals "all" = some none)
    (z2 : PySem.W.nsIn K mainGlobals "bool" = some none)
    (z3 : PySem.W.nsIn K mainGlobals "int" = some none)
    (z4 : PySem.W.nsIn K mainGlobals "isinstance" = some none)
    (z5 : PySem.W.nsIn K mainGlobals "len" = some none)
    (z6 : PySem.W.nsIn K mainGlobals "list" = some none)
    (z7 : PySem.W.nsIn K mainGlobals "range" = some none)
    (z8 : PySem.W.nsIn K mainGlobals "tuple" = some none)
    (z9 : PySem.W.nsIn K mainGlobals "zip" = some none) :
    ∃ fd : FuncData, (∀ (s : Shared) (u : Value), BindsTo s fd ⟨[u], []⟩ [("_law_script", u)]) ∧
      ∀ base : Heap, K.In base → base.Ns mainGlobals mg → FnOk l.prog w K mg base (L2.CX l.prog w) 10 fa fd ["_law_script"] (spD K 1 (gLaw 63)) := by
  have e := hfa.symm.trans (PySem.W.mg_of X G a31)
  cases e
  have T : Txt K mg f0 f1 f2 f3 f4 f5 f6 f7 f8 f9 f10 f11 f12 f13 f14 f15 f16 f17 f18 f19 f20 f21 f22 f23 f24 f25 f26 f27 f28 f29 f30 _  := ⟨PySem.W.mg_none_of X G z0, PySem.W.mg_none_of X G z1, PySem.W.mg_none_of X G z2, PySem.W.mg_none_of X G z3, PySem.W.mg_none_of X G z4, PySem.W.mg_none_of X G z5, PySem.W.mg_none_of X G z6, PySem.W.mg_none_of X G z7, PySem.W.mg_none_of X G z8, PySem.W.mg_none_of X G z9, PySem.W.mg_of X G a0, PySem.W.mg_of X G a1, PySem.W.mg_of X G a2, PySem.W.mg_of X G a3, PySem.W.mg_of X G a4, PySem.W.mg_of X G a5, PySem.W.mg_of X G a6, PySem.W.mg_of X G a7, PySem.W.mg_of X G a8, PySem.W.mg_of X G a9, PySem.W.mg_of X G a10, PySem.W.mg_of X G a11, PySem.W.mg_of X G a12, PySem.W.mg_of X G a13, PySem.W.mg_of X G a14, PySem.W.mg_of X G a15, PySem.W.mg_of X G a16, PySem.W.mg_of X G a17, PySem.W.mg_of X G a18, PySem.W.mg_of X G a19, PySem.W.mg_of X G a20, PySem.W.mg_of X G a21, PySem.W.mg_of X G a22, PySem.W.mg_of X G a23, PySem.W.mg_of X G a24, PySem.W.mg_of X G a25, PySem.W.mg_of X G a26, PySem.W.mg_of X G a27, PySem.W.mg_of X G a28, PySem.W.mg_of X G a29, PySem.W.mg_of X G a30, PySem.W.mg_of X G a31⟩
  refine ⟨PySem.W.fnOf "law" "law" (defArgs s_law) (defBody s_law) (defScope s_law) .none kV31 doc31 pm31 an31 cd31 ct31, fun s v => .of_eq rfl, fun base _ _ => ?_⟩
  have D_is_whole : FD l.prog w K mg base 1 f0 1 [] g_is_whole := ⟨⟨_, _, [], [], def_okA l0 c0 sc_is_whole rfl (fun cdv A outer s H E hr => der_is_whole T hr) rd_is_whole, .all (fun us hl => match us, hl with | [_], _ => rfl), .nil, fun _ => .nil⟩, k0⟩
  have D_common : FD l.prog w K mg base 1 f1 2 [] g_common := ⟨⟨_, _, [], [], def_okA l1 c1 sc_common rfl (fun cdv A outer s H E hr => der_common T hr) rd_common, .all (fun us hl => match us, hl with | [_, _], _ => rfl), .nil, fun _ => .nil⟩, k1⟩
  have F_fraction : FunD K "fraction" "fraction" (defArgs s_fraction) (defBody s_fraction) (defScope s_fraction) [.int 1] [] f2 _ := ⟨⟨_, _, _, _, _, _, _, _, _, _, rfl, l2, c2, .inr ⟨by simp, dT2, _, [.int 1 tk2_0], tn2, rfl, t2, rfl, .cons ⟨_, rfl⟩ .nil⟩, .inl rfl⟩, k2⟩
  have ok_fraction : FnOk l.prog w K mg base (L2.CX l.prog w) 2 f2 _ ["top", "bottom"] (spD K 2 g_fraction) := def_okA l2 c2 sc_fraction rfl (fun cdv A outer s H E hr => der_fraction T D_is_whole D_common hr) rd_fraction
  have D_fraction : FD l.prog w K mg base 2 f2 2 [] g_fraction := by
    obtain ⟨ds, v, b⟩ := F_fraction.binds1 (ps := ["top", "bottom"]) 2 1 (by simp) rfl (fun T kV doc pm an cdv ct us its h1 h2 => match us, its, h1, h2 with | [_, _], [_], _, _ => ⟨_, rfl, rfl⟩)
    exact ⟨⟨_, _, _, ds, ok_fraction, b, v, fun _ => .nil⟩, k2⟩
  have D_fraction_d : FD l.prog w K mg base 2 f2 2 [.int 1] g_fraction := by
    obtain ⟨ds, v, b⟩ := F_fraction.binds1 (ps := ["top", "bottom"]) 1 0 (by simp) rfl (fun T kV doc pm an cdv ct us its h1 h2 => match us, its, h1, h2 with | [_], [_], _, _ => ⟨_, rfl, rfl⟩)
    exact ⟨⟨_, _, _, ds, ok_fraction, b, v, fun _ => .cons (.int _) .nil⟩, k2⟩
  have D_plus : FD l.prog w K mg base 3 f3 2 [] g_plus := ⟨⟨_, _, [], [], def_okA l3 c3 sc_plus rfl (fun cdv A outer s H E hr => der_plus T D_fraction hr) rd_plus, .all (fun us hl => match us, hl with | [_, _], _ => rfl), .nil, fun _ => .nil⟩, k3⟩
  have D_times : FD l.prog w K mg base 3 f4 2 [] g_times := ⟨⟨_, _, [], [], def_okA l4 c4 sc_times rfl (fun cdv A outer s H E hr => der_times T D_fraction hr) rd_times, .all (fun us hl => match us, hl with | [_, _], _ => rfl), .nil, fun _ => .nil⟩, k4⟩
  have D_along : FD l.prog w K mg base 4 f6 2 [] g_along := ⟨⟨_, _, [], [], def_okA l6 c6 sc_along rfl (fun cdv A outer s H E hr => der_along T D_plus D_times D_fraction_d hr) rd_along, .all (fun us hl => match us, hl with | [_, _], _ => rfl), .nil, fun _ => .nil⟩, k6⟩
  have D_added : FD l.prog w K mg base 1 f11 3 [] g_added := ⟨⟨_, _, [], [], def_okA l11 c11 sc_added rfl (fun cdv A outer s H E hr => der_added T hr) rd_added, .all (fun us hl => match us, hl with | [_, _, _], _ => rfl), .nil, fun _ => .nil⟩, k11⟩
  have D_choices : FD l.prog w K mg base 1 f16 2 [] g_choices := ⟨⟨_, _, [], [], def_okA l16 c16 sc_choices rfl (fun cdv A outer s H E hr => der_choices T hr) rd_choices, .all (fun us hl => match us, hl with | [_, _], _ => rfl), .nil, fun _ => .nil⟩, k16⟩
  have D_divisor_of : FD l.prog w K mg base 2 f9 1 [] g_divisor_of := ⟨⟨_, _, [], [], def_okA l9 c9 sc_divisor_of rfl (fun cdv A outer s H E hr => der_divisor_of T D_common hr) rd_divisor_of, .all (fun us hl => match us, hl with | [_], _ => rfl), .nil, fun _ => .nil⟩, k9⟩
  have D_lowest : FD l.prog w K mg base 3 f10 1 [] g_lowest := ⟨⟨_, _, [], [], def_okA l10 c10 sc_lowest rfl (fun cdv A outer s H E hr => der_lowest T D_divisor_of hr) rd_lowest, .all (fun us hl => match us, hl with | [_], _ => rfl), .nil, fun _ => .nil⟩, k10⟩
  have D_crossed : FD l.prog w K mg base 4 f12 3 [] g_crossed := ⟨⟨_, _, [], [], def_okA l12 c12 sc_crossed rfl (fun cdv A outer s H E hr => der_crossed T D_lowest hr) rd_crossed, .all (fun us hl => match us, hl with | [_, _, _], _ => rfl), .nil, fun _ => .nil⟩, k12⟩
  have D_first_with : FD l.prog w K mg base 1 f13 3 [] g_first_with := ⟨⟨_, _, [], [], def_okA l13 c13 sc_first_with rfl (fun cdv A outer s H E hr => der_first_with T hr) rd_first_with, .all (fun us hl => match us, hl with | [_, _, _], _ => rfl), .nil, fun _ => .nil⟩, k13⟩
  have D_reduced : FD l.prog w K mg base 5 f14 2 [] g_reduced := ⟨⟨_, _, [], [], def_okA l14 c14 sc_reduced rfl (fun cdv A outer s H E hr => der_reduced T D_lowest D_crossed D_first_with hr) rd_reduced, .all (fun us hl => match us, hl with | [_, _], _ => rfl), .nil, fun _ => .nil⟩, k14⟩
  have D_turned_rows : FD l.prog w K mg base 1 f17 3 [] g_turned_rows := ⟨⟨_, _, [], [], def_okA l17 c17 sc_turned_rows rfl (fun cdv A outer s H E hr => der_turned_rows T hr) rd_turned_rows, .all (fun us hl => match us, hl with | [_, _, _], _ => rfl), .nil, fun _ => .nil⟩, k17⟩
  have D_made_whole : FD l.prog w K mg base 2 f18 3 [] g_made_whole := ⟨⟨_, _, [], [], def_okA l18 c18 sc_made_whole rfl (fun cdv A outer s H E hr => der_made_whole T D_common hr) rd_made_whole, .all (fun us hl => match us, hl with | [_, _, _], _ => rfl), .nil, fun _ => .nil⟩, k18⟩
  have D_ring_of : FD l.prog w K mg base 6 f20 3 [] g_ring_of := ⟨⟨_, _, [], [], def_okA l20 c20 sc_ring_of rfl (fun cdv A outer s H E hr => der_ring_of T D_fraction D_reduced D_turned_rows D_made_whole D_fraction_d hr) rd_ring_of, .all (fun us hl => match us, hl with | [_, _, _], _ => rfl), .nil, fun _ => .nil⟩, k20⟩
  have D_empty_by : FD l.prog w K mg base 7 f21 2 [] g_empty_by := ⟨⟨_, _, [], [], def_okA l21 c21 sc_empty_by rfl (fun cdv A outer s H E hr => der_empty_by T D_added D_choices D_ring_of hr) rd_empty_by, .all (fun us hl => match us, hl with | [_, _], _ => rfl), .nil, fun _ => .nil⟩, k21⟩
  have D_under : FD l.prog w K mg base 1 f5 2 [] g_under := ⟨⟨_, _, [], [], def_okA l5 c5 sc_under rfl (fun cdv A outer s H E hr => der_under T hr) rd_under, .all (fun us hl => match us, hl with | [_, _], _ => rfl), .nil, fun _ => .nil⟩, k5⟩
  have D_holds : FD l.prog w K mg base 5 f7 2 [] g_holds := ⟨⟨_, _, [], [], def_okA l7 c7 sc_holds rfl (fun cdv A outer s H E hr => der_holds T D_under D_along D_fraction_d hr) rd_holds, .all (fun us hl => match us, hl with | [_, _], _ => rfl), .nil, fun _ => .nil⟩, k7⟩
  have D_lies_in : FD l.prog w K mg base 6 f8 2 [] g_lies_in := ⟨⟨_, _, [], [], def_okA l8 c8 sc_lies_in rfl (fun cdv A outer s H E hr => der_lies_in T D_holds hr) rd_lies_in, .all (fun us hl => match us, hl with | [_, _], _ => rfl), .nil, fun _ => .nil⟩, k8⟩
  have D_solution : FD l.prog w K mg base 6 f15 2 [] g_solution := ⟨⟨_, _, [], [], def_okA l15 c15 sc_solution rfl (fun cdv A outer s H E hr => der_solution T D_fraction D_reduced D_fraction_d hr) rd_solution, .all (fun us hl => match us, hl with | [_, _], _ => rfl), .nil, fun _ => .nil⟩, k15⟩
  have D_corners : FD l.prog w K mg base 7 f22 2 [] g_corners := ⟨⟨_, _, [], [], def_okA l22 c22 sc_corners rfl (fun cdv A outer s H E hr => der_corners T D_lies_in D_reduced D_solution D_choices hr) rd_corners, .all (fun us hl => match us, hl with | [_, _], _ => rfl), .nil, fun _ => .nil⟩, k22⟩
  have D_way_out : FD l.prog w K mg base 8 f23 3 [] g_way_out := ⟨⟨_, _, [], [], def_okA l23 c23 sc_way_out rfl (fun cdv A outer s H E hr => der_way_out T D_along D_made_whole D_corners hr) rd_way_out, .all (fun us hl => match us, hl with | [_, _, _], _ => rfl), .nil, fun _ => .nil⟩, k23⟩
  have D_shares_by : FD l.prog w K mg base 7 f19 3 [] g_shares_by := ⟨⟨_, _, [], [], def_okA l19 c19 sc_shares_by rfl (fun cdv A outer s H E hr => der_shares_by T D_solution D_turned_rows D_made_whole hr) rd_shares_by, .all (fun us hl => match us, hl with | [_, _, _], _ => rfl), .nil, fun _ => .nil⟩, k19⟩
  have D_least_shares : FD l.prog w K mg base 8 f24 3 [] g_least_shares := ⟨⟨_, _, [], [], def_okA l24 c24 sc_least_shares rfl (fun cdv A outer s H E hr => der_least_shares T D_fraction D_under D_added D_choices D_shares_by hr) rd_least_shares, .all (fun us hl => match us, hl with | [_, _, _], _ => rfl), .nil, fun _ => .nil⟩, k24⟩
  have D_most : FD l.prog w K mg base 9 f25 2 [] g_most := ⟨⟨_, _, [], [], def_okA l25 c25 sc_most rfl (fun cdv A outer s H E hr => der_most T D_along D_empty_by D_corners D_way_out D_least_shares hr) rd_most, .all (fun us hl => match us, hl with | [_, _], _ => rfl), .nil, fun _ => .nil⟩, k25⟩
  have D__law_cell_at : FD l.prog w K mg base 1 f26 2 [] g__law_cell_at := ⟨⟨_, _, [], [], def_okA l26 c26 sc__law_cell_at rfl (fun cdv A outer s H E hr => der__law_cell_at T hr) rd__law_cell_at, .all (fun us hl => match us, hl with | [_, _], _ => rfl), .nil, fun _ => .nil⟩, k26⟩
  have D__law_stream : FD l.prog w K mg base 1 f27 2 [] g__law_stream := ⟨⟨_, _, [], [], def_okA l27 c27 sc__law_stream rfl (fun cdv A outer s H E hr => der__law_stream T hr) rd__law_stream, .all (fun us hl => match us, hl with | [_, _], _ => rfl), .nil, fun _ => .nil⟩, k27⟩
  have D__law_number : FD l.prog w K mg base 1 f28 1 [] g__law_number := ⟨⟨_, _, [], [], def_okA l28 c28 sc__law_number rfl (fun cdv A outer s H E hr => der__law_number T hr) rd__law_number, .all (fun us hl => match us, hl with | [_], _ => rfl), .nil, fun _ => .nil⟩, k28⟩
  have D__law_box : FD l.prog w K mg base 2 f29 2 [] g__law_box := ⟨⟨_, _, [], [], def_okA l29 c29 sc__law_box rfl (fun cdv A outer s H E hr => der__law_box T D__law_stream D__law_number hr) rd__law_box, .all (fun us hl => match us, hl with | [_, _], _ => rfl), .nil, fun _ => .nil⟩, k29⟩
  have D__law_room : FD l.prog w K mg base 2 f30 2 [] g__law_room := ⟨⟨_, _, [], [], def_okA l30 c30 sc__law_room rfl (fun cdv A outer s H E hr => der__law_room T D__law_stream hr) rd__law_room, .all (fun us hl => match us, hl with | [_, _], _ => rfl), .nil, fun _ => .nil⟩, k30⟩
  exact def_okA l31 c31 sc_law rfl (fun cdv A outer s H E hr => der_law T D_most D__law_cell_at D__law_stream D__law_number D__law_box D__law_room hr) rd_law
end K62
open PySem PySem.W PyProof.Rows in
set_option maxRecDepth 100000 in
set_option maxHeartbeats 0 in
theorem PySem.Challenge.cw_steadyhand_k62_most_in_boxes_holds : PySem.Challenge.rw_steadyhand_k62_most_in_boxes.Holds := by
  w_on; o_law; k_head; (case hw => w_witness2)
  k_fill
  refine Dl.law_end (l := PySem.Challenge.rw_steadyhand_k62_most_in_boxes) (n := 63) (k := 10) (x := "_law_script") rfl (by decide) rfl ⟨rfl, by decide, by decide⟩ (fun w h Y => PySem.W.kIn_of Y) ?F
  case F =>
    intro w mg fa h KX G hmg
    refine' K62.all_mk KX G hmg ?a0 ?l0 ?c0 ?k0 ?a1 ?l1 ?c1 ?k1 ?a2 ?l2 ?c2 ?k2 ?t2 ?a3 ?l3 ?c3 ?k3 ?a4 ?l4 ?c4 ?k4 ?a5 ?l5 ?c5 ?k5 ?a6 ?l6 ?c6 ?k6 ?a7 ?l7 ?c7 ?k7 ?a8 ?l8 ?c8 ?k8 ?a9 ?l9 ?c9 ?k9 ?a10 ?l10 ?c10 ?k10 ?a11 ?l11 ?c11 ?k11 ?a12 ?l12 ?c12 ?k12 ?a13 ?l13 ?c13 ?k13 ?a14 ?l14 ?c14 ?k14 ?a15 ?l15 ?c15 ?k15 ?a16 ?l16 ?c16 ?k16 ?a17 ?l17 ?c17 ?k17 ?a18 ?l18 ?c18 ?k18 ?a19 ?l19 ?c19 ?k19 ?a20 ?l20 ?c20 ?k20 ?a21 ?l21 ?c21 ?k21 ?a22 ?l22 ?c22 ?k22 ?a23 ?l23 ?c23 ?k23 ?a24 ?l24 ?c24 ?k24 ?a25 ?l25 ?c25 ?k25 ?a26 ?l26 ?c26 ?k26 ?a27 ?l27 ?c27 ?k27 ?a28 ?l28 ?c28 ?k28 ?a29 ?l29 ?c29 ?k29 ?a30 ?l30 ?c30 ?k30 ?a31 ?l31 ?c31 ?k31 ?z0 ?z1 ?z2 ?z3 ?z4 ?z5 ?z6 ?z7 ?z8 ?z9
    (case a0 => k_is)
    (case l0 => k_is)
    (case c0 => k_is)
    (case k0 => k_is)
    (case a1 => k_is)
    (case l1 => k_is)
    (case c1 => k_is)
    (case k1 => k_is)
    (case a2 => k_is)
    (case l2 => k_is)
    (case c2 => k_is)
    (case k2 => k_is)
    (case t2 => k_is)
    (case a3 => k_is)
    (case l3 => k_is)
    (case c3 => k_is)
    (case k3 => k_is)
    (case a4 => k_is)
    (case l4 => k_is)
    (case c4 => k_is)
    (case k4 => k_is)
    (case a5 => k_is)
    (case l5 => k_is)
    (case c5 => k_is)
    (case k5 => k_is)
    (case a6 => k_is)
    (case l6 => k_is)
    (case c6 => k_is)
    (case k6 => k_is)
    (case a7 => k_is)
    (case l7 => k_is)
    (case c7 => k_is)
    (case k7 => k_is)
    (case a8 => k_is)
    (case l8 => k_is)
    (case c8 => k_is)
    (case k8 => k_is)
    (case a9 => k_is)
    (case l9 => k_is)
    (case c9 => k_is)
    (case k9 => k_is)
    (case a10 => k_is)
    (case l10 => k_is)
    (case c10 => k_is)
    (case k10 => k_is)
    (case a11 => k_is)
    (case l11 => k_is)
    (case c11 => k_is)
    (case k11 => k_is)
    (case a12 => k_is)
    (case l12 => k_is)
    (case c12 => k_is)
    (case k12 => k_is)
    (case a13 => k_is)
    (case l13 => k_is)
    (case c13 => k_is)
    (case k13 => k_is)
    (case a14 => k_is)
    (case l14 => k_is)
    (case c14 => k_is)
    (case k14 => k_is)
    (case a15 => k_is)
    (case l15 => k_is)
    (case c15 => k_is)
    (case k15 => k_is)
    (case a16 => k_is)
    (case l16 => k_is)
    (case c16 => k_is)
    (case k16 => k_is)
    (case a17 => k_is)
    (case l17 => k_is)
    (case c17 => k_is)
    (case k17 => k_is)
    (case a18 => k_is)
    (case l18 => k_is)
    (case c18 => k_is)
    (case k18 => k_is)
    (case a19 => k_is)
    (case l19 => k_is)
    (case c19 => k_is)
    (case k19 => k_is)
    (case a20 => k_is)
    (case l20 => k_is)
    (case c20 => k_is)
    (case k20 => k_is)
    (case a21 => k_is)
    (case l21 => k_is)
    (case c21 => k_is)
    (case k21 => k_is)
    (case a22 => k_is)
    (case l22 => k_is)
    (case c22 => k_is)
    (case k22 => k_is)
    (case a23 => k_is)
    (case l23 => k_is)
    (case c23 => k_is)
    (case k23 => k_is)
    (case a24 => k_is)
    (case l24 => k_is)
    (case c24 => k_is)
    (case k24 => k_is)
    (case a25 => k_is)
    (case l25 => k_is)
    (case c25 => k_is)
    (case k25 => k_is)
    (case a26 => k_is)
    (case l26 => k_is)
    (case c26 => k_is)
    (case k26 => k_is)
    (case a27 => k_is)
    (case l27 => k_is)
    (case c27 => k_is)
    (case k27 => k_is)
    (case a28 => k_is)
    (case l28 => k_is)
    (case c28 => k_is)
    (case k28 => k_is)
    (case a29 => k_is)
    (case l29 => k_is)
    (case c29 => k_is)
    (case k29 => k_is)
    (case a30 => k_is)
    (case l30 => k_is)
    (case c30 => k_is)
    (case k30 => k_is)
    (case a31 => k_is)
    (case l31 => k_is)
    (case c31 => k_is)
    (case k31 => k_is)
    (case z0 => k_is)
    (case z1 => k_is)
    (case z2 => k_is)
    (case z3 => k_is)
    (case z4 => k_is)
    (case z5 => k_is)
    (case z6 => k_is)
    (case z7 => k_is)
    (case z8 => k_is)
    (case z9 => k_is)
#print axioms PySem.Challenge.cw_steadyhand_k62_most_in_boxes_holds
