import PyProof.Rows.All
import Wide.All
import OpenK.AllK
import Wide.FinOn
import HandS.ForMost
import HandS.Exc
import HandS.ExcOwn
import HandS.CallSlots
import HandS.WordsExc
import HandS.IsInst
import HandS.Walk
import HandS.TupMul
import HandS.Flow
import KE.GoesZip
import KE.GoesMore
import HandS.EndBits
import HandS.TupLe
import HandS.TryOnly
import HandS.ExcIs
import HandS.Dict
import HandS.Conv
import KE.KDictCopyH
import HandS.Defaults
import PySem.Challenge.RW_steadyhand_k32_modes_of_steered_things
set_option Elab.async false
set_option linter.all false
set_option maxRecDepth 100000
set_option maxHeartbeats 2000000
/-! The D-layer, part 1: trees of values, how they lie in the abstract heap, environments of trees. -/
namespace Dl
/-- a fork that a reading stops at while its test is open -/
def ifP (b : Bool) (A B : Prop) : Prop := match b with
  | true => A
  | false => B
theorem ifP_t (A B : Prop) : ifP true A B = A := rfl
theorem ifP_f (A B : Prop) : ifP false A B = B := rfl
open PySem PySem.Spec
open PyProof.Rows L2

/-- a value as a tree; frl: a list that nobody writes (the script) -/
inductive D where
  | non | bl (b : Bool) | int (i : Int) | str (x : Str) | ty (n : String) | cls (C : Addr)
  | tup (ds : List D) | lst (ds : List D) | frl (ds : List D) | ins (C : Addr) (fs : List (Str × D)) | dic (kvs : List (Key × D))
  | ob (v : V)

mutual
/-- how a tree lies in an abstract heap -/
inductive Rep (K : PySem.W.Frag) (H : Hp) : D → V → Prop
  | non : Rep K H .non .non
  | bl (b : Bool) : Rep K H (.bl b) (.bl b)
  | int (i : Int) : Rep K H (.int i) (.int i)
  | str (x : Str) : Rep K H (.str x) (.str x)
  | ty (n : String) : Rep K H (.ty n) (.ty n)
  | cls (C : Addr) : Rep K H (.cls C) (.ref C)
  | ob (v : V) : Rep K H (.ob v) v
  | tup {a : Addr} {vs : List V} {ds : List D} : H a = some (.tup vs) → vs.length ≤ sizeLine → Reps K H ds vs → Rep K H (.tup ds) (.ref a)
  | lst {a : Addr} {vs : List V} {ds : List D} : H a = some (.lst vs) → vs.length ≤ sizeLine → Reps K H ds vs → Rep K H (.lst ds) (.ref a)
  | frl {a : Addr} {vs : List V} {ds : List D} : SqL K H a vs → vs.length ≤ sizeLine → Reps K H ds vs → Rep K H (.frl ds) (.ref a)
  | ins {a C dx : Addr} {fvs : List (Str × V)} {fs : List (Str × D)} : H a = some (.ins C dx fvs) → RepF K H fs fvs → Rep K H (.ins C fs) (.ref a)
  | dic {a : Addr} {kvs : List (Key × V)} {ds : List (Key × D)} : H a = some (.dK kvs) → RepK K H ds kvs → Rep K H (.dic ds) (.ref a)
inductive Reps (K : PySem.W.Frag) (H : Hp) : List D → List V → Prop
  | nil : Reps K H [] []
  | cons {d : D} {v : V} {ds : List D} {vs : List V} : Rep K H d v → Reps K H ds vs → Reps K H (d :: ds) (v :: vs)
inductive RepF (K : PySem.W.Frag) (H : Hp) : List (Str × D) → List (Str × V) → Prop
  | nil : RepF K H [] []
  | cons {f : Str} {d : D} {v : V} {ds : List (Str × D)} {vs : List (Str × V)} : Rep K H d v → RepF K H ds vs → RepF K H ((f, d) :: ds) ((f, v) :: vs)
inductive RepK (K : PySem.W.Frag) (H : Hp) : List (Key × D) → List (Key × V) → Prop
  | nil : RepK K H [] []
  | cons {f : Key} {d : D} {v : V} {ds : List (Key × D)} {vs : List (Key × V)} : Rep K H d v → RepK K H ds vs → RepK K H ((f, d) :: ds) ((f, v) :: vs)
end

theorem same_seqT {K : PySem.W.Frag} {H H' : Hp} {a : Addr} {xs : List V} (e : Same H H') (h : SqT K H a xs) : SqT K H' a xs :=
  h.elim (fun q => .inl (q.elim (fun z => .inl (e _ _ z)) fun ⟨o, z⟩ => .inr ⟨o, e _ _ z⟩)) .inr
theorem same_seqL {K : PySem.W.Frag} {H H' : Hp} {a : Addr} {xs : List V} (e : Same H H') (h : SqL K H a xs) : SqL K H' a xs :=
  h.elim (fun q => .inl (q.elim (fun z => .inl (e _ _ z)) fun ⟨o, z⟩ => .inr ⟨o, e _ _ z⟩)) .inr
section
variable {K : PySem.W.Frag} {H H' : Hp}
mutual
theorem Rep.mono (e : Same H H') : ∀ {d : D} {v : V}, Rep K H d v → Rep K H' d v
  | _, _, .non => .non
  | _, _, .bl b => .bl b
  | _, _, .int i => .int i
  | _, _, .str x => .str x
  | _, _, .ty n => .ty n
  | _, _, .cls C => .cls C
  | _, _, .ob v => .ob v
  | _, _, .tup s l r => .tup (e _ _ s) l (Reps.mono e r)
  | _, _, .lst s l r => .lst (e _ _ s) l (Reps.mono e r)
  | _, _, .frl s l r => .frl (same_seqL e s) l (Reps.mono e r)
  | _, _, .ins s r => .ins (e _ _ s) (RepF.mono e r)
  | _, _, .dic s r => .dic (e _ _ s) (RepK.mono e r)
theorem Reps.mono (e : Same H H') : ∀ {d : List D} {v : List V}, Reps K H d v → Reps K H' d v
  | _, _, .nil => .nil
  | _, _, .cons r s => .cons (Rep.mono e r) (Reps.mono e s)
theorem RepF.mono (e : Same H H') : ∀ {d : List (Str × D)} {v : List (Str × V)}, RepF K H d v → RepF K H' d v
  | _, _, .nil => .nil
  | _, _, .cons r s => .cons (Rep.mono e r) (RepF.mono e s)
theorem RepK.mono (e : Same H H') : ∀ {d : List (Key × D)} {v : List (Key × V)}, RepK K H d v → RepK K H' d v
  | _, _, .nil => .nil
  | _, _, .cons r s => .cons (Rep.mono e r) (RepK.mono e s)
end
theorem Reps.length : ∀ {ds : List D} {vs : List V}, Reps K H ds vs → vs.length = ds.length
  | _, _, .nil => rfl
  | _, _, .cons _ s => congrArg (· + 1) (Reps.length s)
theorem Reps.get : ∀ {ds : List D} {vs : List V} {i : Nat} {d : D}, Reps K H ds vs → ds[i]? = some d → ∃ v, vs[i]? = some v ∧ Rep K H d v
  | _, _, _, _, .nil, e => by simp at e
  | _, _, 0, _, .cons r _, e => by simp at e; subst e; exact ⟨_, rfl, r⟩
  | _, _, i + 1, d, .cons _ s, e => by
    obtain ⟨v, h1, h2⟩ := Reps.get (i := i) (d := d) s (by simpa using e)
    exact ⟨v, by simpa using h1, h2⟩
theorem Reps.get' : ∀ {ds : List D} {vs : List V} {i : Nat} {v : V}, Reps K H ds vs → vs[i]? = some v → ∃ d, ds[i]? = some d ∧ Rep K H d v
  | _, _, _, _, .nil, e => by simp at e
  | _, _, 0, _, .cons r _, e => by simp at e; subst e; exact ⟨_, rfl, r⟩
  | _, _, i + 1, d, .cons _ s, e => by
    obtain ⟨v, h1, h2⟩ := Reps.get' (i := i) (v := d) s (by simpa using e)
    exact ⟨v, by simpa using h1, h2⟩
theorem Reps.append : ∀ {ds es : List D} {vs ws : List V}, Reps K H ds vs → Reps K H es ws → Reps K H (ds ++ es) (vs ++ ws)
  | _, _, _, _, .nil, s => s
  | _, _, _, _, .cons r t, s => .cons r (Reps.append t s)
theorem Reps.take : ∀ {ds : List D} {vs : List V} (n : Nat), Reps K H ds vs → Reps K H (ds.take n) (vs.take n)
  | _, _, 0, _ => by simp only [List.take_zero]; exact .nil
  | _, _, _ + 1, .nil => .nil
  | _, _, n + 1, .cons r t => .cons r (Reps.take n t)
theorem Reps.drop : ∀ {ds : List D} {vs : List V} (n : Nat), Reps K H ds vs → Reps K H (ds.drop n) (vs.drop n)
  | _, _, 0, r => r
  | _, _, _ + 1, .nil => .nil
  | _, _, n + 1, .cons _ t => Reps.drop n t
theorem Reps.set {d : D} {v : V} (r : Rep K H d v) : ∀ {ds : List D} {vs : List V} (i : Nat), Reps K H ds vs → Reps K H (ds.set i d) (vs.set i v)
  | _, _, _, .nil => .nil
  | _, _, 0, .cons _ t => .cons r t
  | _, _, i + 1, .cons q t => .cons q (Reps.set r i t)
theorem Reps.rep {ds : List D} {vs : List V} (h : Reps K H ds vs) : ∀ k : Nat, Reps K H (List.replicate k ds).flatten (List.replicate k vs).flatten
  | 0 => .nil
  | k + 1 => by
    rw [List.replicate_succ, List.replicate_succ, List.flatten_cons, List.flatten_cons]
    exact h.append (Reps.rep h k)
theorem Reps.ints : ∀ {ns : List Int} {vs : List V}, Reps K H (ns.map D.int) vs → vs = ns.map V.int
  | [], _, .nil => rfl
  | n :: ns, _, .cons r s => by
    cases r
    rw [Reps.ints s]
    rfl
theorem Reps.bls : ∀ {ns : List Bool} {vs : List V}, Reps K H (ns.map D.bl) vs → vs = ns.map V.bl
  | [], _, .nil => rfl
  | n :: ns, _, .cons r s => by
    cases r
    rw [Reps.bls s]
    rfl
theorem RepF.look {f : Str} : ∀ {fs : List (Str × D)} {fvs : List (Str × V)} {d : D}, RepF K H fs fvs → fs.lookup f = some d → ∃ v, fvs.lookup f = some v ∧ Rep K H d v
  | _, _, _, .nil, e => by simp at e
  | (g, d0) :: fs, (_, v0) :: fvs, d, .cons r s, e => by
    rw [List.lookup_cons] at e ⊢
    cases hb : f == g with
    | true => rw [hb] at e; cases e; exact ⟨_, rfl, r⟩
    | false => rw [hb] at e; exact RepF.look s e
theorem RepF.none {f : Str} : ∀ {fs : List (Str × D)} {fvs : List (Str × V)}, RepF K H fs fvs → fs.lookup f = none → fvs.lookup f = none
  | _, _, .nil, _ => rfl
  | (g, d0) :: fs, (_, v0) :: fvs, .cons r s, e => by
    rw [List.lookup_cons] at e ⊢
    cases hb : f == g with
    | true => rw [hb] at e; cases e
    | false => rw [hb] at e; exact RepF.none s e
theorem RepF.length : ∀ {ds : List (Str × D)} {vs : List (Str × V)}, RepF K H ds vs → vs.length = ds.length
  | _, _, .nil => rfl
  | _, _, .cons _ s => congrArg (· + 1) (RepF.length s)
end

/-! ### heaps: F what is frozen, H all -/
structure Go (F H F' H' : Hp) : Prop where
  ff : Same F F'
  hh : Same H H'
  fh : Same F' H'
  nn : ∀ p, F p = none → H p ≠ none → F' p = none
theorem Go.refl {F H : Hp} (e : Same F H) : Go F H F H := ⟨Same.refl _, Same.refl _, e, fun _ h _ => h⟩
theorem Go.trans {F H F1 H1 F2 H2 : Hp} (a : Go F H F1 H1) (b : Go F1 H1 F2 H2) : Go F H F2 H2 :=
  ⟨a.ff.trans b.ff, a.hh.trans b.hh, b.fh, fun p h1 h2 => b.nn p (a.nn p h1 h2) fun z => h2 (a.hh.free z)⟩
theorem same_upd {H : Hp} {p : Addr} {o : HO} (h : H p = none) : Same H (upd H p o) := fun b u e => by
  rw [upd_ne (ne_of_none e h)]; exact e
theorem Go.alloc {F H : Hp} {p : Addr} {o : HO} (e : Same F H) (h : H p = none) : Go F H (upd F p o) (upd H p o) := by
  refine ⟨same_upd (e.free h), same_upd h, fun b u q => ?_, fun q h1 h2 => ?_⟩
  · by_cases z : b = p
    · subst z; rw [upd_same] at q ⊢; exact q
    · rw [upd_ne z] at q ⊢; exact e _ _ q
  · rw [upd_ne (fun z => by rw [z] at h2; exact h2 h)]; exact h1

/-! ### environments -/
/-- a name: without a value, a tree (of what is frozen), a list of one's own, an instance that is being made -/
inductive Sl where
  | no | sh (d : D) | ow (ds : List D) | oi (C : Addr × Addr) (fs : List (Str × D)) | od (kvs : List (List Key × D))
abbrev Env' := List Sl
def Sl.own : Sl → Bool
  | .ow _ => true
  | .oi _ _ => true
  | .od _ => true
  | _ => false
/-- a dict's pairs, its keys tuples of ints and texts -/
inductive RepT (K : PySem.W.Frag) (H : Hp) : List (List Key × D) → List (List Key × V) → Prop
  | nil : RepT K H [] []
  | cons {f : List Key} {d : D} {v : V} {ds : List (List Key × D)} {vs : List (List Key × V)} : Rep K H d v → RepT K H ds vs → RepT K H ((f, d) :: ds) ((f, v) :: vs)
theorem RepT.mono {K : PySem.W.Frag} {H H' : Hp} (e : Same H H') : ∀ {ds : List (List Key × D)} {vs : List (List Key × V)}, RepT K H ds vs → RepT K H' ds vs
  | _, _, .nil => .nil
  | _, _, .cons r s => .cons (r.mono e) (RepT.mono e s)
structure Rl (K : PySem.W.Frag) (ρ : Env') (σ : L2.St) (F H : Hp) : Prop where
  len : ρ.length = σ.length
  fh : Same F H
  sh : ∀ (i : Nat) (d : D), ρ[i]? = some (.sh d) → ∃ v, σ[i]? = some (some v) ∧ Rep K F d v
  ow : ∀ (i : Nat) (ds : List D), ρ[i]? = some (.ow ds) → ∃ (p : Addr) (vs : List V), σ[i]? = some (some (.ref p)) ∧ H p = some (.lst vs) ∧ F p = none ∧ vs.length ≤ sizeLine ∧ Reps K F ds vs
  oi : ∀ (i : Nat) (C : Addr × Addr) (fs : List (Str × D)), ρ[i]? = some (.oi C fs) → ∃ (p dx : Addr) (vs : List (Str × V)), σ[i]? = some (some (.ref p)) ∧ H p = some (.ins C.1 dx vs) ∧ F p = none ∧ RepF K F fs vs ∧ p = C.2
  od : ∀ (i : Nat) (kvs : List (List Key × D)), ρ[i]? = some (.od kvs) → ∃ (p : Addr) (vs : List (List Key × V)), σ[i]? = some (some (.ref p)) ∧ H p = some (.dT vs) ∧ F p = none ∧ RepT K F kvs vs
  inj : ∀ (i j : Nat) (s t : Sl) (v : V), ρ[i]? = some s → s.own = true → ρ[j]? = some t → t.own = true → σ[i]? = some (some v) → σ[j]? = some (some v) → i = j
theorem Rl.go {K : PySem.W.Frag} {ρ : Env'} {σ : L2.St} {F H F' H' : Hp} (r : Rl K ρ σ F H) (g : Go F H F' H') : Rl K ρ σ F' H' where
  len := r.len
  fh := g.fh
  sh := fun i d e => let ⟨v, h1, h2⟩ := r.sh i d e; ⟨v, h1, h2.mono g.ff⟩
  ow := fun i ds e => let ⟨p, vs, h1, h2, h3, h4, h5⟩ := r.ow i ds e; ⟨p, vs, h1, g.hh _ _ h2, g.nn p h3 (by rw [h2]; exact fun z => nomatch z), h4, h5.mono g.ff⟩
  oi := fun i C fs e => let ⟨p, dx, vs, h1, h2, h3, h5, h6⟩ := r.oi i C fs e; ⟨p, dx, vs, h1, g.hh _ _ h2, g.nn p h3 (by rw [h2]; exact fun z => nomatch z), h5.mono g.ff, h6⟩
  od := fun i kvs e => let ⟨p, vs, h1, h2, h3, h5⟩ := r.od i kvs e; ⟨p, vs, h1, g.hh _ _ h2, g.nn p h3 (by rw [h2]; exact fun z => nomatch z), h5.mono g.ff⟩
  inj := r.inj
/-- within a def: F0, H0 its entry; what it owns is new -/
structure Ent (K : PySem.W.Frag) (F0 H0 : Hp) (ρ : Env') (σ : L2.St) (F H : Hp) : Prop where
  rl : Rl K ρ σ F H
  go : Go F0 H0 F H
  new : ∀ (i : Nat) (s : Sl) (p : Addr), ρ[i]? = some s → s.own = true → σ[i]? = some (some (.ref p)) → H0 p = none
theorem Ent.step {K : PySem.W.Frag} {F0 H0 : Hp} {ρ : Env'} {σ : L2.St} {F H F' H' : Hp} (r : Ent K F0 H0 ρ σ F H) (g : Go F H F' H') : Ent K F0 H0 ρ σ F' H' :=
  ⟨r.rl.go g, r.go.trans g, r.new⟩

/-- read for a moment: a tree that is frozen, or a list of one's own -/
def Pk (K : PySem.W.Frag) (F H : Hp) (d : D) (v : V) : Prop :=
  Rep K F d v ∨ ∃ (p : Addr) (vs : List V) (ds : List D), d = .lst ds ∧ v = .ref p ∧ H p = some (.lst vs) ∧ vs.length ≤ sizeLine ∧ Reps K F ds vs
theorem Pk.go {K : PySem.W.Frag} {F H F' H' : Hp} {d : D} {v : V} (p : Pk K F H d v) (g : Go F H F' H') : Pk K F' H' d v :=
  p.elim (fun r => .inl (r.mono g.ff)) fun ⟨p, vs, ds, h1, h2, h3, h4, h5⟩ => .inr ⟨p, vs, ds, h1, h2, g.hh _ _ h3, h4, h5.mono g.ff⟩
theorem Pk.rep {K : PySem.W.Frag} {F H : Hp} {d : D} {v : V} (p : Pk K F H d v) (e : Same F H) : Rep K H d v := by
  rcases p with r | ⟨p, vs, ds, rfl, rfl, h3, h4, h5⟩
  · exact r.mono e
  · exact .lst h3 h4 (h5.mono e)
/-- a list's places, a tuple's -/
theorem Pk.lst {K : PySem.W.Frag} {F H : Hp} {ds : List D} {v : V} (p : Pk K F H (.lst ds) v) (e : Same F H) : ∃ (p : Addr) (vs : List V), v = .ref p ∧ H p = some (.lst vs) ∧ vs.length ≤ sizeLine ∧ Reps K F ds vs := by
  rcases p with r | ⟨p, vs, es, q, rfl, h3, h4, h5⟩
  · cases r with
    | lst s l r => exact ⟨_, _, rfl, e _ _ s, l, r⟩
  · cases q; exact ⟨p, vs, rfl, h3, h4, h5⟩
theorem Pk.tup {K : PySem.W.Frag} {F H : Hp} {ds : List D} {v : V} (p : Pk K F H (.tup ds) v) (e : Same F H) : ∃ (p : Addr) (vs : List V), v = .ref p ∧ SqT K H p vs ∧ vs.length ≤ sizeLine ∧ Reps K F ds vs := by
  rcases p with r | ⟨p, vs, es, q, rfl, h3, h4, h5⟩
  · cases r with
    | tup s l r => exact ⟨_, _, rfl, SqT.of (e _ _ s), l, r⟩
  · cases q
theorem Pk.frl {K : PySem.W.Frag} {F H : Hp} {ds : List D} {v : V} (p : Pk K F H (.frl ds) v) (e : Same F H) : ∃ (p : Addr) (vs : List V), v = .ref p ∧ SqL K H p vs ∧ vs.length ≤ sizeLine ∧ Reps K F ds vs := by
  rcases p with r | ⟨p, vs, es, q, rfl, h3, h4, h5⟩
  · cases r with
    | frl s l r => exact ⟨_, _, rfl, same_seqL e s, l, r⟩
  · cases q
theorem Pk.int {K : PySem.W.Frag} {F H : Hp} {i : Int} {v : V} (p : Pk K F H (.int i) v) : v = .int i := by
  rcases p with r | ⟨p, vs, es, q, rfl, h3, h4, h5⟩
  · cases r; rfl
  · cases q
theorem Pk.bl {K : PySem.W.Frag} {F H : Hp} {i : Bool} {v : V} (p : Pk K F H (.bl i) v) : v = .bl i := by
  rcases p with r | ⟨p, vs, es, q, rfl, h3, h4, h5⟩
  · cases r; rfl
  · cases q
theorem Pk.str {K : PySem.W.Frag} {F H : Hp} {i : Str} {v : V} (p : Pk K F H (.str i) v) : v = .str i := by
  rcases p with r | ⟨p, vs, es, q, rfl, h3, h4, h5⟩
  · cases r; rfl
  · cases q
/-- how an exception lies: an instance of its class -/
inductive XRep (K : PySem.W.Frag) (F H : Hp) : D → Value → Option Addr → Prop
  | bare (C : Addr) : XRep K F H (.ins C []) (.ref C) none
  | full {C dx : Addr} {fvs : List (Str × V)} {fs : List (Str × D)} : fs ≠ [] → H dx = some (.xd fvs) → RepF K F fs fvs → XRep K F H (.ins C fs) (.ref C) (some dx)

/-! ### what a tree is worth as data, for == -/
mutual
def D.py : D → PyData
  | .non => .none
  | .bl b => .bool b
  | .int i => .int i
  | .str x => .str x
  | .tup ds => .tuple (D.pys ds)
  | .lst ds => .list (D.pys ds)
  | .frl ds => .list (D.pys ds)
  | .ty _ => .none
  | .cls _ => .none
  | .ins _ _ => .none
  | .dic _ => .none
  | .ob _ => .none
def D.pys : List D → List PyData
  | [] => []
  | d :: ds => D.py d :: D.pys ds
end
mutual
/-- None, truths, ints, texts, and lists and tuples of these -/
def D.flat : D → Bool
  | .non => true
  | .bl _ => true
  | .int _ => true
  | .str _ => true
  | .tup ds => D.flats ds
  | .lst ds => D.flats ds
  | .frl ds => D.flats ds
  | .ty _ => false
  | .cls _ => false
  | .ins _ _ => false
  | .dic _ => false
  | .ob _ => false
def D.flats : List D → Bool
  | [] => true
  | d :: ds => D.flat d && D.flats ds
end
mutual
theorem Rep.dp {K : PySem.W.Frag} {H : Hp} : ∀ {d : D} {v : V}, Rep K H d v → d.flat = true → Dp K H v d.py
  | _, _, .non, _ => by unfold D.py; exact .non
  | _, _, .bl b, _ => by unfold D.py; exact .bl b
  | _, _, .int i, _ => by unfold D.py; exact .int i
  | _, _, .str x, _ => by unfold D.py; exact .str x
  | _, _, .tup s l r, h => by unfold D.py; unfold D.flat at h; exact .tup (SqT.of s) (Reps.dp r h)
  | _, _, .lst s l r, h => by unfold D.py; unfold D.flat at h; exact .lst (SqL.of s) (Reps.dp r h)
  | _, _, .frl s l r, h => by unfold D.py; unfold D.flat at h; exact .lst s (Reps.dp r h)
  | _, _, .ty n, h => by unfold D.flat at h; cases h
  | _, _, .cls n, h => by unfold D.flat at h; cases h
  | _, _, .ins s r, h => by unfold D.flat at h; cases h
  | _, _, .dic s r, h => by unfold D.flat at h; cases h
  | _, _, .ob v, h => by unfold D.flat at h; cases h
theorem Reps.dp {K : PySem.W.Frag} {H : Hp} : ∀ {d : List D} {v : List V}, Reps K H d v → D.flats d = true → DpAll K H v (D.pys d)
  | _, _, .nil, _ => by unfold D.pys; exact .nil
  | _, _, .cons r s, h => by
    unfold D.pys; unfold D.flats at h; rw [Bool.and_eq_true] at h
    exact .cons (Rep.dp r h.1) (Reps.dp s h.2)
end
end Dl

/-! The D-layer, part 2: expressions. A reading takes the names' trees, what is wanted of the value, what is wanted of an exception. -/
namespace Dl
open PySem PySem.Spec
open PyProof.Rows L2
abbrev EQ := D → Prop
abbrev TD := Env' → EQ → EQ → Prop
abbrev TDs := Env' → (List D → Prop) → EQ → Prop
abbrev TDb := Env' → (Bool → Prop) → EQ → Prop
/-- what is wanted of an exception, met at these names and heaps -/
def XP (K : PySem.W.Frag) (W : WX) (σ : L2.St) (F H : Hp) (E : EQ) : Prop :=
  ∀ (x : D) (cls : Value) (dx : Option Addr) (F' H' : Hp), Go F H F' H' → XRep K F' H' x cls dx → E x → W cls dx σ H'
theorem XP.go {K : PySem.W.Frag} {W : WX} {σ : L2.St} {F H F1 H1 : Hp} {E : EQ} (h : XP K W σ F H E) (g : Go F H F1 H1) : XP K W σ F1 H1 E :=
  fun x cls dx F' H' g' r e => h x cls dx F' H' (g.trans g') r e
/-- an expression -/
structure RE (X : Cx) (W : WX) (e : Expr) (t : TD) : Prop where
  run : ∃ te, PE X e te ∧ ∀ (ρ : Env') (σ : L2.St) (F H : Hp) (Qd E : EQ) (Q : VK), Rl X.K ρ σ F H → XP X.K W σ F H E →
    (∀ d v F' H', Go F H F' H' → Rep X.K F' d v → Qd d → Q v H') → t ρ Qd E → te σ H Q
/-- an expression that is read for a moment -/
structure RP (X : Cx) (W : WX) (e : Expr) (t : TD) : Prop where
  run : ∃ te, PE X e te ∧ ∀ (ρ : Env') (σ : L2.St) (F H : Hp) (Qd E : EQ) (Q : VK), Rl X.K ρ σ F H → XP X.K W σ F H E →
    (∀ d v F' H', Go F H F' H' → Pk X.K F' H' d v → Qd d → Q v H') → t ρ Qd E → te σ H Q
/-- arguments -/
structure RA (X : Cx) (W : WX) (es : List Expr) (t : TDs) : Prop where
  run : ∃ ta, PA X es ta ∧ ∀ (ρ : Env') (σ : L2.St) (F H : Hp) (Qd : List D → Prop) (E : EQ) (Q : List V → Hp → Prop), Rl X.K ρ σ F H → XP X.K W σ F H E →
    (∀ ds vs F' H', Go F H F' H' → Reps X.K F' ds vs → Qd ds → Q vs H') → t ρ Qd E → ta σ H Q
inductive Pks (K : PySem.W.Frag) (F H : Hp) : List D → List V → Prop
  | nil : Pks K F H [] []
  | cons {d : D} {v : V} {ds : List D} {vs : List V} : Pk K F H d v → Pks K F H ds vs → Pks K F H (d :: ds) (v :: vs)
theorem Pks.go {K : PySem.W.Frag} {F H F' H' : Hp} (g : Go F H F' H') : ∀ {ds : List D} {vs : List V}, Pks K F H ds vs → Pks K F' H' ds vs
  | _, _, .nil => .nil
  | _, _, .cons p q => .cons (p.go g) (Pks.go g q)
/-- arguments that are read for a moment -/
structure RPA (X : Cx) (W : WX) (es : List Expr) (t : TDs) : Prop where
  run : ∃ ta, PA X es ta ∧ ∀ (ρ : Env') (σ : L2.St) (F H : Hp) (Qd : List D → Prop) (E : EQ) (Q : List V → Hp → Prop), Rl X.K ρ σ F H → XP X.K W σ F H E →
    (∀ ds vs F' H', Go F H F' H' → Pks X.K F' H' ds vs → Qd ds → Q vs H') → t ρ Qd E → ta σ H Q
/-- tests -/
structure RT (X : Cx) (W : WX) (e : Expr) (t : TDb) : Prop where
  run : ∃ tt, PT X e tt ∧ ∀ (ρ : Env') (σ : L2.St) (F H : Hp) (Qd : Bool → Prop) (E : EQ) (Q : Bool → Hp → Prop), Rl X.K ρ σ F H → XP X.K W σ F H E →
    (∀ b F' H', Go F H F' H' → Qd b → Q b H') → t ρ Qd E → tt σ H Q
structure RW (X : Cx) (W : WX) (e : Expr) (t : TDb) : Prop where
  run : ∃ tt, PW X e tt ∧ ∀ (ρ : Env') (σ : L2.St) (F H : Hp) (Qd : Bool → Prop) (E : EQ) (Q : Bool → Hp → Prop), Rl X.K ρ σ F H → XP X.K W σ F H E →
    (∀ b F' H', Go F H F' H' → Qd b → Q b H') → t ρ Qd E → tt σ H Q
section
variable {X : Cx} {W : WX} {e a b c : Expr} {es : List Expr} {t ta tb tc : TD} {ts : TDs} {pos : Pos}
theorem RE.p (h : RE X W e t) : RP X W e t := by
  obtain ⟨te, h1, h2⟩ := h.run
  exact ⟨te, h1, fun ρ σ F H Qd E Q r x k q => h2 ρ σ F H Qd E Q r x (fun d v F' H' g rp qd => k d v F' H' g (.inl rp) qd) q⟩
/-! ### names and constants -/
def dVar (i : Nat) : TD := fun ρ Q _ => match ρ[i]? with
  | some (.sh d) => Q d
  | _ => False
def dVarP (i : Nat) : TD := fun ρ Q _ => match ρ[i]? with
  | some (.sh d) => Q d
  | some (.ow ds) => Q (.lst ds)
  | _ => False
def dC (d : D) : TD := fun _ Q _ => Q d
theorem re_var (i : Nat) {x : Str} (hN : X.N[i]? = some x := by rfl) (hv : Vis X.env.scope x := by first | exact Or.inl rfl | exact Or.inr (Or.inl rfl) | exact Or.inr (Or.inr rfl)) (hd : (x == ("__debug__" : Str)) = false := by decide) (hcd : (x == ("__classdict__" : Str)) = false := by decide) : RE X W (.Name x pos) (dVar i) := by
  refine ⟨tVar i, pe_var hN hv hd hcd, fun ρ σ F H Qd E Q r xp k q => ?_⟩
  unfold dVar at q
  split at q
  · rename_i d e
    obtain ⟨v, h1, h2⟩ := r.sh i d e
    exact ⟨v, h1, k d v F H (.refl r.fh) h2 q⟩
  · exact q.elim
theorem rp_var (i : Nat) {x : Str} (hN : X.N[i]? = some x := by rfl) (hv : Vis X.env.scope x := by first | exact Or.inl rfl | exact Or.inr (Or.inl rfl) | exact Or.inr (Or.inr rfl)) (hd : (x == ("__debug__" : Str)) = false := by decide) (hcd : (x == ("__classdict__" : Str)) = false := by decide) : RP X W (.Name x pos) (dVarP i) := by
  refine ⟨tVar i, pe_var hN hv hd hcd, fun ρ σ F H Qd E Q r xp k q => ?_⟩
  unfold dVarP at q
  split at q
  · rename_i d e
    obtain ⟨v, h1, h2⟩ := r.sh i d e
    exact ⟨v, h1, k d v F H (.refl r.fh) (.inl h2) q⟩
  · rename_i ds e
    obtain ⟨p, vs, h1, h2, h3, h4, h5⟩ := r.ow i ds e
    exact ⟨_, h1, k _ _ F H (.refl r.fh) (.inr ⟨p, vs, ds, rfl, rfl, h2, h4, h5⟩) q⟩
  · exact q.elim
theorem re_int {i j} : RE X W (.Constant (.int i) j pos) (dC (.int i)) := ⟨_, pe_int, fun ρ σ F H Qd E Q r xp k q => k _ _ F H (.refl r.fh) (.int i) q⟩
theorem re_bl {i j} : RE X W (.Constant (.bool i) j pos) (dC (.bl i)) := ⟨_, pe_bl, fun ρ σ F H Qd E Q r xp k q => k _ _ F H (.refl r.fh) (.bl i) q⟩
/-- a name of the module: an int, a text, a class -/
def GlobD : D → Value → Prop
  | .int i, u => ∃ t, u = .int i t
  | .str x, u => ∃ t, u = .str x t
  | .cls C, u => u = .ref C
  | .ty n, u => u = .type n
  | _, _ => False
theorem re_glob {x : Str} {d : D} {u : Value} (hm : X.mg x = some u) (r : GlobD d u) (hg : Gl X x := by rfl) (hd : (x == ("__debug__" : Str)) = false := by decide) : RE X W (.Name x pos) (dC d) := by
  cases d with
  | int i => exact ⟨_, pe_glob (v := .int i) hg hm r hd, fun ρ σ F H Qd E Q r xp k q => k _ _ F H (.refl r.fh) (.int i) q⟩
  | str i => exact ⟨_, pe_glob (v := .str i) hg hm r hd, fun ρ σ F H Qd E Q r xp k q => k _ _ F H (.refl r.fh) (.str i) q⟩
  | cls i => exact ⟨_, pe_glob (v := .ref i) hg hm r hd, fun ρ σ F H Qd E Q r xp k q => k _ _ F H (.refl r.fh) (.cls i) q⟩
  | ty i => exact ⟨_, pe_glob (v := .ty i) hg hm r hd, fun ρ σ F H Qd E Q r xp k q => k _ _ F H (.refl r.fh) (.ty i) q⟩
  | _ => exact r.elim
/-- a built-in type as a value -/
theorem re_ty {x : Str} {n : String} (hm : X.mg x = none) (hv : bootBuiltins x = some (.type n)) (hg : Gl X x := by rfl) (hn : x ≠ "__name__" := by decide) (hd : (x == ("__debug__" : Str)) = false := by decide) : RE X W (.Name x pos) (dC (.ty n)) :=
  ⟨_, pe_bltn (v := .ty n) hg hm hv rfl hn hd, fun ρ σ F H Qd E Q r xp k q => k _ _ F H (.refl r.fh) (.ty n) q⟩

/-! ### operators -/
/-- an operator by trees -/
abbrev KD := D → D → EQ → Prop
def OpD (X : Cx) (f : Value → Value → Sem Value) (k : KD) : Prop :=
  ∃ r, OpR X f r ∧ ∀ (x y : D) (vx vy : V) (F H : Hp) (Qd : EQ) (Q : VK), Same F H → Pk X.K F H x vx → Pk X.K F H y vy →
    (∀ d v F' H', Go F H F' H' → Rep X.K F' d v → Qd d → Q v H') → k x y Qd → r vx vy H Q
def dOp (k : KD) (ta tb : TD) : TD := fun ρ Q E => ta ρ (fun x => tb ρ (fun y => k x y Q) E) E
theorem op_core {r : R2} {k : KD} {te1 te2 : TE} {ρ : Env'} {σ : L2.St} {F H : Hp} {Qd E : EQ} {Q : VK}
    (ha : ∀ (ρ : Env') (σ : L2.St) (F H : Hp) (Qd E : EQ) (Q : VK), Rl X.K ρ σ F H → XP X.K W σ F H E → (∀ d v F' H', Go F H F' H' → Pk X.K F' H' d v → Qd d → Q v H') → ta ρ Qd E → te1 σ H Q)
    (hb : ∀ (ρ : Env') (σ : L2.St) (F H : Hp) (Qd E : EQ) (Q : VK), Rl X.K ρ σ F H → XP X.K W σ F H E → (∀ d v F' H', Go F H F' H' → Pk X.K F' H' d v → Qd d → Q v H') → tb ρ Qd E → te2 σ H Q)
    (ho : ∀ (x y : D) (vx vy : V) (F H : Hp) (Qd : EQ) (Q : VK), Same F H → Pk X.K F H x vx → Pk X.K F H y vy → (∀ d v F' H', Go F H F' H' → Rep X.K F' d v → Qd d → Q v H') → k x y Qd → r vx vy H Q)
    (rl : Rl X.K ρ σ F H) (xp : XP X.K W σ F H E) (kk : ∀ d v F' H', Go F H F' H' → Rep X.K F' d v → Qd d → Q v H') (q : dOp k ta tb ρ Qd E) : tOp r te1 te2 σ H Q := by
  refine ha ρ σ F H _ E _ rl xp (fun x vx F1 H1 g1 px q1 => ?_) q
  refine hb ρ σ F1 H1 _ E _ (rl.go g1) (xp.go g1) (fun y vy F2 H2 g2 py q2 => ?_) q1
  exact ho x y vx vy F2 H2 Qd Q g2.fh (px.go g2) py (fun d v F' H' g r qd => kk d v F' H' ((g1.trans g2).trans g) r qd) q2
theorem re_op {op : Operator} {k : KD} (ho : OpD X (binaryOp op) k) (ha : RP X W a ta) (hb : RP X W b tb) : RE X W (.BinOp a op b pos) (dOp k ta tb) := by
  obtain ⟨r, o1, o2⟩ := ho
  obtain ⟨te1, a1, a2⟩ := ha.run
  obtain ⟨te2, b1, b2⟩ := hb.run
  exact ⟨_, pe_op o1 a1 b1, fun ρ σ F H Qd E Q rl xp kk q => op_core a2 b2 o2 rl xp kk q⟩
theorem re_cmp {op : CmpOp} {k : KD} (ho : OpD X (compareOp op) k) (ha : RP X W a ta) (hb : RP X W b tb) (hm : behindInMarks op b = false := by first | exact nomark _ | rfl) : RE X W (.Compare a [op] [b] pos) (dOp k ta tb) := by
  obtain ⟨r, o1, o2⟩ := ho
  obtain ⟨te1, a1, a2⟩ := ha.run
  obtain ⟨te2, b1, b2⟩ := hb.run
  exact ⟨_, pe_cmpR o1 a1 b1 hm, fun ρ σ F H Qd E Q rl xp kk q => op_core a2 b2 o2 rl xp kk q⟩
/-- where a truth is wanted -/
def asB (Q : Bool → Prop) : EQ
  | .bl c => Q c
  | _ => False
def dTest (t : TD) : TDb := fun ρ Q E => t ρ (asB Q) E
theorem asB_inv {Q : Bool → Prop} {d : D} (h : asB Q d) : ∃ c, d = .bl c ∧ Q c := by
  cases d <;> first | exact ⟨_, rfl, h⟩ | exact False.elim h
theorem rt_cmp {op : CmpOp} {k : KD} (ho : OpD X (compareOp op) k) (ha : RP X W a ta) (hb : RP X W b tb) (hm : behindInMarks op b = false := by first | exact nomark _ | rfl) : RT X W (.Compare a [op] [b] pos) (dTest (dOp k ta tb)) := by
  obtain ⟨r, o1, o2⟩ := ho
  obtain ⟨te1, a1, a2⟩ := ha.run
  obtain ⟨te2, b1, b2⟩ := hb.run
  refine ⟨_, pt_cmpR o1 a1 b1 hm, fun ρ σ F H Qd E Q rl xp kk q => op_core a2 b2 o2 rl xp (fun d v F' H' g rp qd => ?_) q⟩
  obtain ⟨c, rfl, qc⟩ := asB_inv qd
  cases rp
  exact ⟨c, rfl, kk c F' H' g qc⟩
/-- a value that is a truth, as a test -/
theorem rt_val (h : RP X W e t) (he : ∀ whole, isTrue e X.env whole = (do let v ← whole; standAt e.pos; holding [v] (truthy v)) := by intro _; rfl) : RT X W e (dTest t) := by
  obtain ⟨te, h1, h2⟩ := h.run
  refine ⟨_, pt_val h1 he, fun ρ σ F H Qd E Q rl xp kk q => h2 ρ σ F H _ E _ rl xp (fun d v F' H' g rp qd => ?_) q⟩
  obtain ⟨c, rfl, qc⟩ := asB_inv qd
  cases rp.bl
  exact ⟨c, rfl, kk c F' H' g qc⟩
def dNot (t : TDb) : TDb := fun ρ Q E => t ρ (fun c => Q (!c)) E
theorem rt_not {t : TDb} (h : RT X W a t) : RT X W (.UnaryOp .Not a pos) (dNot t) := by
  obtain ⟨te, h1, h2⟩ := h.run
  exact ⟨_, pt_not h1, fun ρ σ F H Qd E Q rl xp kk q => h2 ρ σ F H _ E _ rl xp (fun c F' H' g qd => kk _ F' H' g qd) q⟩
variable {tA tB : TDb} {rest : List Expr}
theorem RW.toT {t : TDb} (h : RW X W e t) : RT X W e t := by
  obtain ⟨te, h1, h2⟩ := h.run
  exact ⟨te, h1.pt, h2⟩
def dAnd (t u : TDb) : TDb := fun ρ Q E => t ρ (fun c => ifP c (u ρ Q E) (Q false)) E
def dOr (t u : TDb) : TDb := fun ρ Q E => t ρ (fun c => ifP c (Q true) (u ρ Q E)) E
theorem rw_and1 (h : RT X W a tA) : RW X W (.BoolOp .And [a] pos) tA := by
  obtain ⟨te, h1, h2⟩ := h.run
  exact ⟨te, pw_and1 h1, h2⟩
theorem rw_or1 (h : RT X W a tA) : RW X W (.BoolOp .Or [a] pos) tA := by
  obtain ⟨te, h1, h2⟩ := h.run
  exact ⟨te, pw_or1 h1, h2⟩
theorem rw_and (ha : RT X W a tA) (hb : RW X W (.BoolOp .And (b :: rest) pos) tB) : RW X W (.BoolOp .And (a :: b :: rest) pos) (dAnd tA tB) := by
  obtain ⟨te, h1, h2⟩ := ha.run
  obtain ⟨te', h1', h2'⟩ := hb.run
  refine ⟨_, pw_and h1 h1', fun ρ σ F H Qd E Q rl xp kk q => h2 ρ σ F H _ E _ rl xp (fun c F' H' g qd => ?_) q⟩
  cases c with
  | true => exact h2' ρ σ F' H' Qd E Q (rl.go g) (xp.go g) (fun c F2 H2 g2 q2 => kk c F2 H2 (g.trans g2) q2) qd
  | false => exact kk _ F' H' g qd
theorem rw_or (ha : RT X W a tA) (hb : RW X W (.BoolOp .Or (b :: rest) pos) tB) : RW X W (.BoolOp .Or (a :: b :: rest) pos) (dOr tA tB) := by
  obtain ⟨te, h1, h2⟩ := ha.run
  obtain ⟨te', h1', h2'⟩ := hb.run
  refine ⟨_, pw_or h1 h1', fun ρ σ F H Qd E Q rl xp kk q => h2 ρ σ F H _ E _ rl xp (fun c F' H' g qd => ?_) q⟩
  cases c with
  | false => exact h2' ρ σ F' H' Qd E Q (rl.go g) (xp.go g) (fun c F2 H2 g2 q2 => kk c F2 H2 (g.trans g2) q2) qd
  | true => exact kk _ F' H' g qd
/-- and, or, not as values: all but the last are truths -/
def dAndV (ta tb : TD) : TD := fun ρ Q E => ta ρ (asB fun c => ifP c (tb ρ Q E) (Q (.bl false))) E
def dNotV (ta : TD) : TD := fun ρ Q E => ta ρ (asB fun c => Q (.bl (!c))) E
theorem re_one {op} (h : RE X W a t) : RE X W (.BoolOp op [a] pos) t := by
  obtain ⟨te, h1, h2⟩ := h.run
  exact ⟨te, pe_one h1, h2⟩
theorem re_and (ha : RP X W a ta) (hb : RE X W (.BoolOp .And (b :: rest) pos) tb) : RE X W (.BoolOp .And (a :: b :: rest) pos) (dAndV ta tb) := by
  obtain ⟨te, h1, h2⟩ := ha.run
  obtain ⟨te', h1', h2'⟩ := hb.run
  refine ⟨_, pe_and h1 h1', fun ρ σ F H Qd E Q rl xp kk q => h2 ρ σ F H _ E _ rl xp (fun d v F' H' g rp qd => ?_) q⟩
  obtain ⟨c, rfl, qc⟩ := asB_inv qd
  cases rp.bl
  refine ⟨c, rfl, ?_⟩
  cases c with
  | true => exact h2' ρ σ F' H' Qd E Q (rl.go g) (xp.go g) (fun c v F2 H2 g2 r2 q2 => kk c v F2 H2 (g.trans g2) r2 q2) qc
  | false => exact kk _ _ F' H' g (.bl false) qc
theorem re_not (ha : RP X W a ta) : RE X W (.UnaryOp .Not a pos) (dNotV ta) := by
  obtain ⟨te, h1, h2⟩ := ha.run
  refine ⟨_, pe_not h1, fun ρ σ F H Qd E Q rl xp kk q => h2 ρ σ F H _ E _ rl xp (fun d v F' H' g rp qd => ?_) q⟩
  obtain ⟨c, rfl, qc⟩ := asB_inv qd
  cases rp.bl
  exact ⟨c, rfl, kk _ _ F' H' g (.bl _) qc⟩
end

/-! ### arguments, displays -/
section
variable {X : Cx} {W : WX} {e : Expr} {es : List Expr} {t : TD} {ts : TDs} {pos : Pos}
def dNil : TDs := fun _ Q _ => Q []
def dCons (t : TD) (u : TDs) : TDs := fun ρ Q E => t ρ (fun x => u ρ (fun xs => Q (x :: xs)) E) E
theorem ra_nil : RA X W [] dNil := ⟨_, pa_nil, fun ρ σ F H Qd E Q rl xp kk q => kk [] [] F H (.refl rl.fh) .nil q⟩
theorem ra_cons (h : RE X W e t) (hr : RA X W es ts) (hs : starEach (e :: es) X.env = (false, eval e X.env) :: starEach es X.env := by rfl) : RA X W (e :: es) (dCons t ts) := by
  obtain ⟨te, h1, h2⟩ := h.run
  obtain ⟨te1, a1, a2⟩ := hr.run
  refine ⟨_, pa_cons h1 a1 hs, fun ρ σ F H Qd E Q rl xp kk q => h2 ρ σ F H _ E _ rl xp (fun d v F1 H1 g1 r1 q1 => ?_) q⟩
  exact a2 ρ σ F1 H1 _ E _ (rl.go g1) (xp.go g1) (fun ds vs F2 H2 g2 r2 q2 => kk _ _ F2 H2 (g1.trans g2) (.cons (r1.mono g2.ff) r2) q2) q1
theorem rpa_nil : RPA X W [] dNil := ⟨_, pa_nil, fun ρ σ F H Qd E Q rl xp kk q => kk [] [] F H (.refl rl.fh) .nil q⟩
theorem rpa_cons (h : RP X W e t) (hr : RPA X W es ts) (hs : starEach (e :: es) X.env = (false, eval e X.env) :: starEach es X.env := by rfl) : RPA X W (e :: es) (dCons t ts) := by
  obtain ⟨te, h1, h2⟩ := h.run
  obtain ⟨te1, a1, a2⟩ := hr.run
  refine ⟨_, pa_cons h1 a1 hs, fun ρ σ F H Qd E Q rl xp kk q => h2 ρ σ F H _ E _ rl xp (fun d v F1 H1 g1 r1 q1 => ?_) q⟩
  exact a2 ρ σ F1 H1 _ E _ (rl.go g1) (xp.go g1) (fun ds vs F2 H2 g2 r2 q2 => kk _ _ F2 H2 (g1.trans g2) (.cons (r1.go g2) r2) q2) q1
theorem Go.lst {K : PySem.W.Frag} {F H : Hp} {ds : List D} {vs : List V} (e : Same F H) (r : Reps K F ds vs) (z : vs.length ≤ sizeLine) {p : Addr} (np : H p = none) : Go F H (upd F p (.lst vs)) (upd H p (.lst vs)) ∧ Rep K (upd F p (.lst vs)) (.lst ds) (.ref p) :=
  ⟨.alloc e np, .lst upd_same z (r.mono (same_upd (e.free np)))⟩
theorem Go.tup {K : PySem.W.Frag} {F H : Hp} {ds : List D} {vs : List V} (e : Same F H) (r : Reps K F ds vs) (z : vs.length ≤ sizeLine) {p : Addr} (np : H p = none) : Go F H (upd F p (.tup vs)) (upd H p (.tup vs)) ∧ Rep K (upd F p (.tup vs)) (.tup ds) (.ref p) :=
  ⟨.alloc e np, .tup upd_same z (r.mono (same_upd (e.free np)))⟩
/-- lists and tuples of fewer than so many things -/
def few (ds : List D) : Prop := ds.length ≤ 16777216
theorem few_line {K : PySem.W.Frag} {F : Hp} {ds : List D} {vs : List V} (r : Reps K F ds vs) (h : few ds) : vs.length ≤ sizeLine := by
  rw [r.length, sizeLine_eq]; exact h
def dTup (ts : TDs) : TD := fun ρ Q E => ts ρ (fun ds => few ds ∧ Q (.tup ds)) E
def dLst (ts : TDs) : TD := fun ρ Q E => ts ρ (fun ds => few ds ∧ Q (.lst ds)) E
theorem re_tup {j} (h : RA X W es ts) : RE X W (.Tuple es j pos) (dTup ts) := by
  obtain ⟨te, h1, h2⟩ := h.run
  refine ⟨_, pe_tup h1, fun ρ σ F H Qd E Q rl xp kk q => h2 ρ σ F H _ E _ rl xp (fun ds vs F1 H1 g1 r1 q1 => ⟨few_line r1 q1.1, fun p np => ?_⟩) q⟩
  obtain ⟨g, r⟩ := Go.tup g1.fh r1 (few_line r1 q1.1) np
  exact kk _ _ _ _ (g1.trans g) r q1.2
theorem re_lst (h : RA X W es ts) : RE X W (.List es pos) (dLst ts) := by
  obtain ⟨te, h1, h2⟩ := h.run
  refine ⟨_, pe_lst h1, fun ρ σ F H Qd E Q rl xp kk q => h2 ρ σ F H _ E _ rl xp (fun ds vs F1 H1 g1 r1 q1 => ⟨few_line r1 q1.1, fun p np => ?_⟩) q⟩
  obtain ⟨g, r⟩ := Go.lst g1.fh r1 (few_line r1 q1.1) np
  exact kk _ _ _ _ (g1.trans g) r q1.2
end

/-! ### operators of ints, texts, lists, tuples -/
section
variable {X : Cx}
theorem opd_rI {f : Value → Value → Sem Value} {C : Int → Int → Prop} {g : Int → Int → V} {k : KD} (o : OpR X f (rI C g))
    (h : ∀ (x y : D) (Q : EQ), k x y Q → ∃ i j d, x = .int i ∧ y = .int j ∧ C i j ∧ (∀ K F, Rep K F d (g i j)) ∧ Q d) : OpD X f k := by
  refine ⟨_, o, fun x y vx vy F H Qd Q e px py kk q => ?_⟩
  obtain ⟨i, j, d, rfl, rfl, c, r, q⟩ := h x y Qd q
  exact ⟨i, j, px.int, py.int, c, kk _ _ F H (.refl e) (r _ _) q⟩
theorem opd_rI0 {f : Value → Value → Sem Value} {g : Int → Int → V} {k : KD} (o : OpR X f (rI0 g))
    (h : ∀ (x y : D) (Q : EQ), k x y Q → ∃ i j d, x = .int i ∧ y = .int j ∧ (∀ K F, Rep K F d (g i j)) ∧ Q d) : OpD X f k := by
  refine ⟨_, o, fun x y vx vy F H Qd Q e px py kk q => ?_⟩
  obtain ⟨i, j, d, rfl, rfl, r, q⟩ := h x y Qd q
  exact ⟨i, j, px.int, py.int, kk _ _ F H (.refl e) (r _ _) q⟩
theorem OpD.or {f : Value → Value → Sem Value} {k k' : KD} (h : OpD X f k) (h' : OpD X f k') : OpD X f (fun x y Q => k x y Q ∨ k' x y Q) := by
  obtain ⟨r, o1, o2⟩ := h
  obtain ⟨r', o1', o2'⟩ := h'
  refine ⟨_, o1.or o1', fun x y vx vy F H Qd Q e px py kk q => ?_⟩
  exact q.elim (fun z => .inl (o2 x y vx vy F H Qd Q e px py kk z)) fun z => .inr (o2' x y vx vy F H Qd Q e px py kk z)
theorem OpD.imp {f : Value → Value → Sem Value} {k k' : KD} (h : OpD X f k) (i : ∀ x y Q, k' x y Q → k x y Q) : OpD X f k' := by
  obtain ⟨r, o1, o2⟩ := h
  exact ⟨r, o1, fun x y vx vy F H Qd Q e px py kk q => o2 x y vx vy F H Qd Q e px py kk (i _ _ _ q)⟩
/-- two ints, then -/
def k2 (g : Int → Int → EQ → Prop) : KD := fun x y Q => match x, y with
  | .int i, .int j => g i j Q
  | _, _ => False
theorem k2_inv {g : Int → Int → EQ → Prop} {x y : D} {Q : EQ} (h : k2 g x y Q) : ∃ i j, x = .int i ∧ y = .int j ∧ g i j Q := by
  cases x <;> cases y <;> first | exact ⟨_, _, rfl, rfl, h⟩ | exact False.elim h
def kAddI : KD := k2 fun i j Q => Q (.int (i + j))
def kAddS : KD := fun x y Q => match x, y with
  | .str a, .str b => a.length + b.length ≤ 16777216 ∧ Q (.str (a ++ b))
  | _, _ => False
def kAddL : KD := fun x y Q => match x, y with
  | .lst a, .lst b => few (a ++ b) ∧ Q (.lst (a ++ b))
  | _, _ => False
def kAddT : KD := fun x y Q => match x, y with
  | .tup a, .tup b => a ≠ [] ∧ few (a ++ b) ∧ Q (.tup (a ++ b))
  | _, _ => False
def kAdd : KD := fun x y Q => match x, y with
  | .int i, .int j => Q (.int (i + j))
  | .str a, .str b => a.length + b.length ≤ 16777216 ∧ Q (.str (a ++ b))
  | .lst a, .lst b => few (a ++ b) ∧ Q (.lst (a ++ b))
  | .tup a, .tup b => a ≠ [] ∧ few (a ++ b) ∧ Q (.tup (a ++ b))
  | _, _ => False
theorem opd_addI : OpD X (binaryOp .Add) kAddI := opd_rI0 op_add fun x y Q h => by
  obtain ⟨i, j, rfl, rfl, q⟩ := k2_inv h
  exact ⟨i, j, _, rfl, rfl, fun _ _ => .int _, q⟩
theorem opd_addS : OpD X (binaryOp .Add) kAddS := by
  refine ⟨_, op_add_str, fun x y vx vy F H Qd Q e px py kk q => ?_⟩
  obtain ⟨a, b, rfl, rfl, z, q⟩ : ∃ a b, x = .str a ∧ y = .str b ∧ a.length + b.length ≤ 16777216 ∧ Qd (.str (a ++ b)) := by
    cases x <;> cases y <;> first | exact ⟨_, _, rfl, rfl, q.1, q.2⟩ | exact False.elim q
  exact ⟨a, b, px.str, py.str, by rw [sizeLine_eq]; exact z, kk _ _ F H (.refl e) (.str _) q⟩
theorem opd_addL : OpD X (binaryOp .Add) kAddL := by
  refine ⟨_, op_cat, fun x y vx vy F H Qd Q e px py kk q => ?_⟩
  obtain ⟨a, b, rfl, rfl, z, q⟩ : ∃ a b, x = .lst a ∧ y = .lst b ∧ few (a ++ b) ∧ Qd (.lst (a ++ b)) := by
    cases x <;> cases y <;> first | exact ⟨_, _, rfl, rfl, q.1, q.2⟩ | exact False.elim q
  obtain ⟨p, vs, rfl, h1, l1, r1⟩ := px.lst e
  obtain ⟨p', vs', rfl, h1', l1', r1'⟩ := py.lst e
  have rr := r1.append r1'
  have zz := few_line rr z
  refine ⟨p, p', vs, vs', rfl, rfl, h1, h1', by rw [← List.length_append]; exact zz, fun l nl => ?_⟩
  obtain ⟨g, r⟩ := Go.lst e rr zz nl
  exact kk _ _ _ _ g r q
theorem opd_addT : OpD X (binaryOp .Add) kAddT := by
  refine ⟨_, op_catT, fun x y vx vy F H Qd Q e px py kk q => ?_⟩
  obtain ⟨a, b, rfl, rfl, ne, z, q⟩ : ∃ a b, x = .tup a ∧ y = .tup b ∧ a ≠ [] ∧ few (a ++ b) ∧ Qd (.tup (a ++ b)) := by
    cases x <;> cases y <;> first | exact ⟨_, _, rfl, rfl, q.1, q.2⟩ | exact False.elim q
  obtain ⟨p, vs, rfl, h1, l1, r1⟩ := px.tup e
  obtain ⟨p', vs', rfl, h1', l1', r1'⟩ := py.tup e
  have rr := r1.append r1'
  have zz := few_line rr z
  have nv : vs ≠ [] := fun h => ne (by rw [h] at r1; cases r1; rfl)
  refine ⟨p, p', vs, vs', rfl, rfl, h1, h1', nv, by rw [← List.length_append]; exact zz, fun en => ?_, fun nn l nl => ?_⟩
  · subst en
    cases r1'
    rw [List.append_nil] at q rr
    exact kk _ _ F H (.refl e) (by rcases px with px | ⟨_, _, _, z, _⟩; exact px; cases z) q
  · obtain ⟨g, r⟩ := Go.tup e rr zz nl
    exact kk _ _ _ _ g r q
theorem opd_add : OpD X (binaryOp .Add) kAdd := ((opd_addI.or opd_addS).or (opd_addL.or opd_addT)).imp fun x y Q h => by
  cases x <;> cases y <;> first | exact .inl (.inl h) | exact .inl (.inr h) | exact .inr (.inl h) | exact .inr (.inr h) | exact False.elim h
def kSub : KD := k2 fun i j Q => Q (.int (i - j))
theorem opd_sub : OpD X (binaryOp .Sub) kSub := opd_rI0 op_sub fun x y Q h => by
  obtain ⟨i, j, rfl, rfl, q⟩ := k2_inv h
  exact ⟨i, j, _, rfl, rfl, fun _ _ => .int _, q⟩
/-- a product that the machine makes: below 2 ^ 27 bits -/
def mulOk (i j : Int) : Prop := IntMulOk i j
theorem op_mulG : OpR X (binaryOp .Mult) (rI mulOk fun i j => .int (i * j)) := opI fun _ _ _ _ _ _ _ hc q => mul_int q hc
def kMulI : KD := k2 fun i j Q => mulOk i j ∧ Q (.int (i * j))
def kMulL : KD := fun x y Q => match x, y with
  | .lst a, .int k => k ≤ 1000000 ∧ -1000000 ≤ k ∧ few (List.replicate k.toNat a).flatten ∧ Q (.lst (List.replicate k.toNat a).flatten)
  | _, _ => False
theorem opd_mulI : OpD X (binaryOp .Mult) kMulI := opd_rI op_mulG fun x y Q h => by
  obtain ⟨i, j, rfl, rfl, c, q⟩ := k2_inv h
  exact ⟨i, j, _, rfl, rfl, c, fun _ _ => .int _, q⟩
theorem flat_len {α : Type} (xs : List α) : ∀ k : Nat, (List.replicate k xs).flatten.length = xs.length * k
  | 0 => rfl
  | k + 1 => by rw [List.replicate_succ, List.flatten_cons, List.length_append, flat_len xs k, Nat.mul_succ]; omega
theorem opd_mulL : OpD X (binaryOp .Mult) kMulL := by
  refine ⟨_, op_rep, fun x y vx vy F H Qd Q e px py kk q => ?_⟩
  obtain ⟨a, k, rfl, rfl, z1, z2, z, q⟩ : ∃ a k, x = .lst a ∧ y = .int k ∧ k ≤ 1000000 ∧ -1000000 ≤ k ∧ few (List.replicate k.toNat a).flatten ∧ Qd (.lst (List.replicate k.toNat a).flatten) := by
    cases x <;> cases y <;> first | exact ⟨_, _, rfl, rfl, q.1, q.2.1, q.2.2.1, q.2.2.2⟩ | exact False.elim q
  obtain ⟨p, vs, rfl, h1, l1, r1⟩ := px.lst e
  cases py.int
  have rr := r1.rep k.toNat
  have zz := few_line rr z
  refine ⟨p, k, vs, rfl, rfl, h1, by omega, by omega, by rw [← flat_len]; exact zz, fun l nl => ?_⟩
  obtain ⟨g, r⟩ := Go.lst e rr zz nl
  exact kk _ _ _ _ g r q
def kMul : KD := fun x y Q => match x, y with
  | .int i, .int j => mulOk i j ∧ Q (.int (i * j))
  | .lst a, .int k => k ≤ 1000000 ∧ -1000000 ≤ k ∧ few (List.replicate k.toNat a).flatten ∧ Q (.lst (List.replicate k.toNat a).flatten)
  | _, _ => False
theorem opd_mul : OpD X (binaryOp .Mult) kMul := (opd_mulI.or opd_mulL).imp fun x y Q h => by
  cases x <;> cases y <;> first | exact .inl h | exact .inr h | exact False.elim h
/-- a floor: the divisor not nought, below 9,000 bits -/
def divOk (j : Int) : Prop := j ≠ 0 ∧ j.natAbs.log2 < 9000
theorem op_divG : OpR X (binaryOp .FloorDiv) (rI (fun _ j => divOk j) fun i j => .int (i.fdiv j)) :=
  opI fun i j _ _ _ _ _ hc q => floordiv_int hc.1 q (.inl (PyProof.noPylong_of_log2 hc.2))
def kDiv : KD := k2 fun i j Q => divOk j ∧ Q (.int (i.fdiv j))
theorem opd_div : OpD X (binaryOp .FloorDiv) kDiv := opd_rI op_divG fun x y Q h => by
  obtain ⟨i, j, rfl, rfl, c, q⟩ := k2_inv h
  exact ⟨i, j, _, rfl, rfl, c, fun _ _ => .int _, q⟩
def kMod : KD := k2 fun i j Q => j ≠ 0 ∧ Q (.int (i.fmod j))
theorem opd_mod : OpD X (binaryOp .Mod) kMod := opd_rI op_modN fun x y Q h => by
  obtain ⟨i, j, rfl, rfl, c, q⟩ := k2_inv h
  exact ⟨i, j, _, rfl, rfl, c, fun _ _ => .int _, q⟩
def kPow : KD := k2 fun i j Q => (0 ≤ j ∧ j ≤ 1000000 ∧ i.natAbs < 2 ^ 64) ∧ Q (.int (i ^ j.toNat))
theorem opd_pow : OpD X (binaryOp .Pow) kPow := opd_rI op_pow fun x y Q h => by
  obtain ⟨i, j, rfl, rfl, c, q⟩ := k2_inv h
  exact ⟨i, j, _, rfl, rfl, c, fun _ _ => .int _, q⟩
/-! comparisons -/
def kLt : KD := k2 fun i j Q => Q (.bl (decide (i < j)))
def kLe : KD := k2 fun i j Q => Q (.bl (decide (i ≤ j)))
def kGt : KD := k2 fun i j Q => Q (.bl (decide (j < i)))
def kGe : KD := k2 fun i j Q => Q (.bl (decide (j ≤ i)))
theorem opd_lt : OpD X (compareOp .Lt) kLt := opd_rI0 op_lt fun x y Q h => by
  obtain ⟨i, j, rfl, rfl, q⟩ := k2_inv h
  exact ⟨i, j, _, rfl, rfl, fun _ _ => .bl _, q⟩
theorem opd_le : OpD X (compareOp .LtE) kLe := opd_rI0 op_le fun x y Q h => by
  obtain ⟨i, j, rfl, rfl, q⟩ := k2_inv h
  exact ⟨i, j, _, rfl, rfl, fun _ _ => .bl _, q⟩
theorem opd_gt : OpD X (compareOp .Gt) kGt := opd_rI0 op_gt fun x y Q h => by
  obtain ⟨i, j, rfl, rfl, q⟩ := k2_inv h
  exact ⟨i, j, _, rfl, rfl, fun _ _ => .bl _, q⟩
theorem opd_ge : OpD X (compareOp .GtE) kGe := opd_rI0 op_ge fun x y Q h => by
  obtain ⟨i, j, rfl, rfl, q⟩ := k2_inv h
  exact ⟨i, j, _, rfl, rfl, fun _ _ => .bl _, q⟩
/-- flat data, not deep -/
def plain (d : D) : Prop := d.flat = true ∧ SeqAt.shaped d.py = true
def kEqG : KD := fun x y Q => plain x ∧ plain y ∧ Q (.bl (PyData.eqv x.py y.py))
def kNeG : KD := fun x y Q => plain x ∧ plain y ∧ Q (.bl (!PyData.eqv x.py y.py))
def kEqI : KD := fun x y Q => match x, y with
  | .int i, .int j => Q (.bl (decide (i = j)))
  | .str i, .str j => Q (.bl (decide (i = j)))
  | .bl i, .bl j => Q (.bl (decide (i = j)))
  | _, _ => False
def kNeI : KD := fun x y Q => match x, y with
  | .int i, .int j => Q (.bl (!decide (i = j)))
  | .str i, .str j => Q (.bl (!decide (i = j)))
  | .bl i, .bl j => Q (.bl (!decide (i = j)))
  | _, _ => False
theorem opd_eqI : OpD X (compareOp .Eq) kEqI := by
  refine ⟨_, op_eq, fun x y vx vy F H Qd Q e px py kk q => ?_⟩
  cases x <;> cases y <;> first | exact False.elim q | skip
  · cases px.bl; cases py.bl; exact ⟨rfl, kk _ _ F H (.refl e) (by rw [show ∀ a b : Bool, decide (V.bl a = V.bl b) = decide (a = b) from fun a b => by cases a <;> cases b <;> rfl]; exact .bl _) q⟩
  · cases px.int; cases py.int; exact ⟨rfl, kk _ _ F H (.refl e) (by rw [dec_int, Bool.beq_eq_decide_eq]; exact .bl _) q⟩
  · cases px.str; cases py.str; exact ⟨rfl, kk _ _ F H (.refl e) (by rw [dec_str, Bool.beq_eq_decide_eq]; exact .bl _) q⟩
theorem opd_neI : OpD X (compareOp .NotEq) kNeI := by
  refine ⟨_, op_ne, fun x y vx vy F H Qd Q e px py kk q => ?_⟩
  cases x <;> cases y <;> first | exact False.elim q | skip
  · cases px.bl; cases py.bl; exact ⟨rfl, kk _ _ F H (.refl e) (by rw [show ∀ a b : Bool, decide (V.bl a = V.bl b) = decide (a = b) from fun a b => by cases a <;> cases b <;> rfl]; exact .bl _) q⟩
  · cases px.int; cases py.int; exact ⟨rfl, kk _ _ F H (.refl e) (by rw [dec_int, Bool.beq_eq_decide_eq]; exact .bl _) q⟩
  · cases px.str; cases py.str; exact ⟨rfl, kk _ _ F H (.refl e) (by rw [dec_str, Bool.beq_eq_decide_eq]; exact .bl _) q⟩
theorem opd_eqG (hu : X.A.units + 64 < cLine) : OpD X (compareOp .Eq) kEqG := by
  refine ⟨_, op_eqD hu, fun x y vx vy F H Qd Q e px py kk ⟨q1, q2, q⟩ => ?_⟩
  exact ⟨_, _, (px.rep e).dp q1.1, (py.rep e).dp q2.1, q1.2, q2.2, kk _ _ F H (.refl e) (.bl _) q⟩
theorem opd_neG (hu : X.A.units + 64 < cLine) : OpD X (compareOp .NotEq) kNeG := by
  refine ⟨_, op_neD hu, fun x y vx vy F H Qd Q e px py kk ⟨q1, q2, q⟩ => ?_⟩
  exact ⟨_, _, (px.rep e).dp q1.1, (py.rep e).dp q2.1, q1.2, q2.2, kk _ _ F H (.refl e) (.bl _) q⟩
def kEq : KD := fun x y Q => match x, y with
  | .int i, .int j => Q (.bl (decide (i = j)))
  | .str i, .str j => Q (.bl (decide (i = j)))
  | .bl i, .bl j => Q (.bl (decide (i = j)))
  | x, y => plain x ∧ plain y ∧ Q (.bl (PyData.eqv x.py y.py))
def kNe : KD := fun x y Q => match x, y with
  | .int i, .int j => Q (.bl (!decide (i = j)))
  | .str i, .str j => Q (.bl (!decide (i = j)))
  | .bl i, .bl j => Q (.bl (!decide (i = j)))
  | x, y => plain x ∧ plain y ∧ Q (.bl (!PyData.eqv x.py y.py))
theorem opd_eq (hu : X.A.units + 64 < cLine) : OpD X (compareOp .Eq) kEq := (opd_eqI.or (opd_eqG hu)).imp fun x y Q h => by
  cases x <;> cases y <;> first | exact .inl h | exact .inr h
theorem opd_ne (hu : X.A.units + 64 < cLine) : OpD X (compareOp .NotEq) kNe := (opd_neI.or (opd_neG hu)).imp fun x y Q h => by
  cases x <;> cases y <;> first | exact .inl h | exact .inr h
end
end Dl

/-! The D-layer, part 3: subscripts, slices, built-in calls, defs called, fields, methods, new instances. -/
namespace Dl
open PySem PySem.Spec
open PyProof.Rows L2
section
variable {X : Cx} {W : WX} {e a b c : Expr} {es : List Expr} {t ta tb tc : TD} {ts : TDs} {pos : Pos}
/-! ### places -/
/-- what wants a thing, of what may be none -/
def asO {α : Type} (Q : α → Prop) : Option α → Prop
  | some d => Q d
  | none => False
theorem asO_inv {α : Type} {Q : α → Prop} {o : Option α} (h : asO Q o) : ∃ d, o = some d ∧ Q d := by
  cases o with
  | none => exact h.elim
  | some d => exact ⟨d, rfl, h⟩
theorem reps_at {K : PySem.W.Frag} {F : Hp} {ds : List D} {vs : List V} {i : Int} {d : D} (r : Reps K F ds vs) (h : atI ds i = some d) : ∃ v, atI vs i = some v ∧ Rep K F d v := by
  unfold atI at h ⊢
  rw [r.length]
  cases q : ixN ds.length i with
  | none => rw [q] at h; cases h
  | some j => rw [q] at h; exact r.get h
def kIx : KD := fun x y Q => match x, y with
  | .lst ds, .int i => asO Q (atI ds i)
  | .frl ds, .int i => asO Q (atI ds i)
  | .tup ds, .int i => asO Q (atI ds i)
  | _, _ => False
def IxD (X : Cx) (k : KD) : Prop :=
  ∃ r, IxR X r ∧ ∀ (x y : D) (vx vy : V) (F H : Hp) (Qd : EQ) (Q : VK), Same F H → Pk X.K F H x vx → Pk X.K F H y vy →
    (∀ d v F' H', Go F H F' H' → Rep X.K F' d v → Qd d → Q v H') → k x y Qd → r vx vy H Q
theorem ixd_seq : IxD X kIx := by
  refine ⟨_, ix_seq, fun x y vx vy F H Qd Q e px py kk q => ?_⟩
  cases x <;> cases y <;> first | exact False.elim q | skip
  · cases py.int
    obtain ⟨d, hd, qd⟩ := asO_inv q
    obtain ⟨p, vs, rfl, h1, l1, r1⟩ := px.tup e
    obtain ⟨v, h2, r2⟩ := reps_at r1 hd
    exact .inr (.inl ⟨p, vs, _, v, rfl, rfl, h1, h2, kk _ _ F H (.refl e) r2 qd⟩)
  · cases py.int
    obtain ⟨d, hd, qd⟩ := asO_inv q
    obtain ⟨p, vs, rfl, h1, l1, r1⟩ := px.lst e
    obtain ⟨v, h2, r2⟩ := reps_at r1 hd
    exact .inl ⟨p, vs, _, v, rfl, rfl, SqL.of h1, h2, kk _ _ F H (.refl e) r2 qd⟩
  · cases py.int
    obtain ⟨d, hd, qd⟩ := asO_inv q
    obtain ⟨p, vs, rfl, h1, l1, r1⟩ := px.frl e
    obtain ⟨v, h2, r2⟩ := reps_at r1 hd
    exact .inl ⟨p, vs, _, v, rfl, rfl, h1, h2, kk _ _ F H (.refl e) r2 qd⟩
theorem re_ix {k : KD} (ho : IxD X k) (ha : RP X W a ta) (hb : RP X W b tb) (hs : PlainIx b := by exact fun _ _ => rfl) : RE X W (.Subscript a b pos) (dOp k ta tb) := by
  obtain ⟨r, o1, o2⟩ := ho
  obtain ⟨te1, a1, a2⟩ := ha.run
  obtain ⟨te2, b1, b2⟩ := hb.run
  exact ⟨_, pe_ix o1 a1 b1 hs, fun ρ σ F H Qd E Q rl xp kk q => op_core a2 b2 o2 rl xp kk q⟩

/-! ### slices -/
abbrev TDo := Env' → (Option Int → Prop) → EQ → Prop
structure RO (X : Cx) (W : WX) (e : Option Expr) (t : TDo) : Prop where
  run : ∃ to, PO X e to ∧ ∀ (ρ : Env') (σ : L2.St) (F H : Hp) (Qd : Option Int → Prop) (E : EQ) (Q : Option Int → Hp → Prop), Rl X.K ρ σ F H → XP X.K W σ F H E →
    (∀ o F' H', Go F H F' H' → Qd o → Q o H') → t ρ Qd E → to σ H Q
def dNoPart : TDo := fun _ Q _ => Q none
def asI (Q : Int → Prop) : EQ
  | .int i => Q i
  | _ => False
theorem asI_inv {Q : Int → Prop} {d : D} (h : asI Q d) : ∃ i, d = .int i ∧ Q i := by
  cases d <;> first | exact ⟨_, rfl, h⟩ | exact False.elim h
def dPart (t : TD) : TDo := fun ρ Q E => t ρ (asI fun i => Q (some i)) E
theorem ro_none : RO X W none dNoPart := ⟨_, po_none, fun ρ σ F H Qd E Q rl xp kk q => kk _ F H (.refl rl.fh) q⟩
theorem ro_some (h : RP X W e t) : RO X W (some e) (dPart t) := by
  obtain ⟨te, h1, h2⟩ := h.run
  refine ⟨_, po_some h1, fun ρ σ F H Qd E Q rl xp kk q => h2 ρ σ F H _ E _ rl xp (fun d v F1 H1 g1 r1 q1 => ?_) q⟩
  obtain ⟨i, rfl, qi⟩ := asI_inv q1
  cases r1.int
  exact ⟨i, rfl, kk _ F1 H1 g1 qi⟩
def cut {α : Type} (xs : List α) (lo hi : Option Int) : List α := (xs.drop (HT.sIx xs.length 0 lo)).take (HT.sIx xs.length xs.length hi - HT.sIx xs.length 0 lo)
theorem reps_cut {K : PySem.W.Frag} {F : Hp} {ds : List D} {vs : List V} (lo hi : Option Int) (r : Reps K F ds vs) : Reps K F (cut ds lo hi) (cutV vs lo hi) := by
  unfold cut cutV
  rw [r.length]
  exact (r.drop _).take _
def kSl : D → Option Int → Option Int → EQ → Prop := fun x lo hi Q => match x with
  | .lst ds => Q (.lst (cut ds lo hi))
  | .frl ds => Q (.lst (cut ds lo hi))
  | .tup ds => ¬ (HT.sIx ds.length 0 lo = 0 ∧ HT.sIx ds.length ds.length hi = ds.length) ∧ Q (.tup (cut ds lo hi))
  | .str z => z.length ≤ 16777216 ∧ Q (.str (cutS z lo hi))
  | _ => False
def dSl (t : TD) (tl th : TDo) : TD := fun ρ Q E => t ρ (fun x => tl ρ (fun l => th ρ (fun u => kSl x l u Q) E) E) E
theorem re_slice {lo hi : Option Expr} {p2 : Pos} {tl th : TDo} (he : RP X W e t) (hl : RO X W lo tl) (hh : RO X W hi th) : RE X W (.Subscript e (.Slice lo hi none p2) pos) (dSl t tl th) := by
  obtain ⟨te, h1, h2⟩ := he.run
  obtain ⟨te1, a1, a2⟩ := hl.run
  obtain ⟨te2, b1, b2⟩ := hh.run
  refine ⟨_, pe_slice ((sl_list.or sl_tup).or sl_str) h1 a1 b1, fun ρ σ F H Qd E Q rl xp kk q => h2 ρ σ F H _ E _ rl xp (fun x vx F1 H1 g1 px q1 => ?_) q⟩
  refine a2 ρ σ F1 H1 _ E _ (rl.go g1) (xp.go g1) (fun l F2 H2 g2 q2 => ?_) q1
  refine b2 ρ σ F2 H2 _ E _ ((rl.go g1).go g2) ((xp.go g1).go g2) (fun u F3 H3 g3 q3 => ?_) q2
  have g := (g1.trans g2).trans g3
  have px3 := (px.go g2).go g3
  cases x <;> first | exact False.elim q3 | skip
  · cases px3.str
    exact .inr ⟨_, rfl, by rw [sizeLine_eq]; exact q3.1, kk _ _ F3 H3 g (.str _) q3.2⟩
  · obtain ⟨p, vs, rfl, hs, l1, r1⟩ := px3.tup g3.fh
    have z1 := Nat.le_trans (cutV_length vs l u) l1
    refine .inl (.inr ⟨p, vs, rfl, hs, by rw [r1.length]; exact q3.1, fun n nn => ?_⟩)
    obtain ⟨g4, r4⟩ := Go.tup g3.fh (reps_cut l u r1) z1 nn
    exact kk _ _ _ _ (g.trans g4) r4 q3.2
  · obtain ⟨p, vs, rfl, hs, l1, r1⟩ := px3.lst g3.fh
    have z1 := Nat.le_trans (cutV_length vs l u) l1
    refine .inl (.inl ⟨p, vs, rfl, SqL.of hs, fun n nn => ?_⟩)
    obtain ⟨g4, r4⟩ := Go.lst g3.fh (reps_cut l u r1) z1 nn
    exact kk _ _ _ _ (g.trans g4) r4 q3
  · obtain ⟨p, vs, rfl, hs, l1, r1⟩ := px3.frl g3.fh
    have z1 := Nat.le_trans (cutV_length vs l u) l1
    refine .inl (.inl ⟨p, vs, rfl, hs, fun n nn => ?_⟩)
    obtain ⟨g4, r4⟩ := Go.lst g3.fh (reps_cut l u r1) z1 nn
    exact kk _ _ _ _ (g.trans g4) r4 q3

/-! ### built-in calls -/
abbrev KC := List D → EQ → Prop
def CallD (X : Cx) (f : Value) (k : KC) : Prop :=
  ∃ r, CallR X f r ∧ ∀ (ds : List D) (vs : List V) (F H : Hp) (Qd : EQ) (Q : VK), Same F H → Pks X.K F H ds vs →
    (∀ d v F' H', Go F H F' H' → Rep X.K F' d v → Qd d → Q v H') → k ds Qd → r vs H Q
def dCB (k : KC) (ts : TDs) : TD := fun ρ Q E => ts ρ (fun ds => k ds Q) E
theorem re_callB {id : String} {x : Str} {p : Pos} {k : KC} (hc : CallD X (.builtin id) k) (hm : X.mg x = none) (ha : RPA X W (e :: es) ts) (hg : Gl X x := by rfl) (hv : bootBuiltins x = some (.builtin id) := by decide +kernel)
    (hn : x ≠ "__name__" := by decide) (hdb : (x == ("__debug__" : Str)) = false := by decide)
    (he : starEach (e :: es) X.env = (false, eval e X.env) :: starEach es X.env := by rfl) (hpl : (backTo pos (starEach es X.env)).any (·.1) = false := by rfl) : RE X W (.Call (.Name x p) (e :: es) [] pos) (dCB k ts) := by
  obtain ⟨r, o1, o2⟩ := hc
  obtain ⟨te, h1, h2⟩ := ha.run
  exact ⟨_, pe_callB o1 hg hm hv h1 hn hdb he hpl, fun ρ σ F H Qd E Q rl xp kk q => h2 ρ σ F H _ E _ rl xp (fun ds vs F1 H1 g1 r1 q1 => o2 ds vs F1 H1 Qd Q g1.fh r1 (fun d v F' H' g rp qd => kk d v F' H' (g1.trans g) rp qd) q1) q⟩
theorem re_callTy {T : String} {x : Str} {p : Pos} {k : KC} (hc : CallD X (.type T) k) (hm : X.mg x = none) (ha : RPA X W (e :: es) ts) (hg : Gl X x := by rfl) (hv : bootBuiltins x = some (.type T) := by decide +kernel)
    (hn : x ≠ "__name__" := by decide) (hdb : (x == ("__debug__" : Str)) = false := by decide)
    (he : starEach (e :: es) X.env = (false, eval e X.env) :: starEach es X.env := by rfl) (hpl : (backTo pos (starEach es X.env)).any (·.1) = false := by rfl) : RE X W (.Call (.Name x p) (e :: es) [] pos) (dCB k ts) := by
  obtain ⟨r, o1, o2⟩ := hc
  obtain ⟨te, h1, h2⟩ := ha.run
  exact ⟨_, pe_callTy o1 hg hm hv h1 hn hdb he hpl, fun ρ σ F H Qd E Q rl xp kk q => h2 ρ σ F H _ E _ rl xp (fun ds vs F1 H1 g1 r1 q1 => o2 ds vs F1 H1 Qd Q g1.fh r1 (fun d v F' H' g rp qd => kk d v F' H' (g1.trans g) rp qd) q1) q⟩
theorem pks1 {K : PySem.W.Frag} {F H : Hp} {d : D} {vs : List V} (h : Pks K F H [d] vs) : ∃ v, vs = [v] ∧ Pk K F H d v := by
  cases h with
  | cons p q => cases q; exact ⟨_, rfl, p⟩
theorem pks2 {K : PySem.W.Frag} {F H : Hp} {d d' : D} {vs : List V} (h : Pks K F H [d, d'] vs) : ∃ v v', vs = [v, v'] ∧ Pk K F H d v ∧ Pk K F H d' v' := by
  cases h with
  | cons p q =>
    obtain ⟨v, rfl, p'⟩ := pks1 q
    exact ⟨_, _, rfl, p, p'⟩
def k1c (g : D → EQ → Prop) : KC := fun ds Q => match ds with
  | [d] => g d Q
  | _ => False
theorem k1c_inv {g : D → EQ → Prop} {ds : List D} {Q : EQ} (h : k1c g ds Q) : ∃ d, ds = [d] ∧ g d Q := by
  match ds, h with
  | [d], h => exact ⟨d, rfl, h⟩
def k2c (g : D → D → EQ → Prop) : KC := fun ds Q => match ds with
  | [d, e] => g d e Q
  | _ => False
theorem k2c_inv {g : D → D → EQ → Prop} {ds : List D} {Q : EQ} (h : k2c g ds Q) : ∃ d e, ds = [d, e] ∧ g d e Q := by
  match ds, h with
  | [d, e], h => exact ⟨d, e, rfl, h⟩
/-- len -/
def kLen : KC := k1c fun d Q => match d with
  | .lst ds => Q (.int ds.length)
  | .frl ds => Q (.int ds.length)
  | .tup ds => Q (.int ds.length)
  | .str z => z.length ≤ 16777216 ∧ Q (.int z.length)
  | _ => False
theorem cd_len : CallD X (.builtin "len") kLen := by
  refine ⟨_, call_len_seq.or call_len_str, fun ds vs F H Qd Q e ps kk q => ?_⟩
  obtain ⟨d, rfl, q⟩ := k1c_inv q
  obtain ⟨v, rfl, pk⟩ := pks1 ps
  cases d <;> first | exact False.elim q | skip
  · cases pk.str
    exact .inr ⟨_, rfl, by rw [sizeLine_eq]; exact q.1, kk _ _ F H (.refl e) (.int _) q.2⟩
  · obtain ⟨p, ws, rfl, h1, l1, r1⟩ := pk.tup e
    exact .inl ⟨p, ws, rfl, .inr h1, kk _ _ F H (.refl e) (by rw [r1.length]; exact .int _) q⟩
  · obtain ⟨p, ws, rfl, h1, l1, r1⟩ := pk.lst e
    exact .inl ⟨p, ws, rfl, .inl (SqL.of h1), kk _ _ F H (.refl e) (by rw [r1.length]; exact .int _) q⟩
  · obtain ⟨p, ws, rfl, h1, l1, r1⟩ := pk.frl e
    exact .inl ⟨p, ws, rfl, .inl h1, kk _ _ F H (.refl e) (by rw [r1.length]; exact .int _) q⟩
def blsOf : List D → Option (List Bool)
  | [] => some []
  | .bl i :: ds => (blsOf ds).map (i :: ·)
  | _ :: _ => none
theorem blsOf_map : ∀ ns : List Bool, blsOf (ns.map D.bl) = some ns
  | [] => rfl
  | n :: ns => by show (blsOf (ns.map D.bl)).map (n :: ·) = _; rw [blsOf_map ns]; rfl
theorem blsOf_inv : ∀ {ds : List D} {ns : List Bool}, blsOf ds = some ns → ds = ns.map D.bl
  | [], ns, h => by cases h; rfl
  | d :: ds, ns, h => by
    cases d <;> first | cases h | skip
    rename_i i
    cases q : blsOf ds with
    | none => rw [show blsOf (.bl i :: ds) = (blsOf ds).map (i :: ·) from rfl, q] at h; cases h
    | some ms =>
      rw [show blsOf (.bl i :: ds) = (blsOf ds).map (i :: ·) from rfl, q] at h
      cases h
      rw [blsOf_inv q]; rfl
def onL (g : List D → Prop) : D → Prop
  | .lst ds => g ds
  | _ => False
theorem onL_inv {g : List D → Prop} {d : D} (h : onL g d) : ∃ ds, d = .lst ds ∧ g ds := by
  cases d <;> first | exact ⟨_, rfl, h⟩ | exact False.elim h
def kAll : KC := k1c fun d Q => onL (fun ds => asO (fun ns => Q (.bl (List.all ns id))) (blsOf ds)) d
theorem cd_all (hc : X.calm = true) : CallD X (.builtin "all") kAll := by
  refine ⟨_, cr_all hc, fun ds vs F H Qd Q e ps kk q => ?_⟩
  obtain ⟨d, rfl, q⟩ := k1c_inv q
  obtain ⟨v, rfl, pk⟩ := pks1 ps
  obtain ⟨xs, rfl, q⟩ := onL_inv q
  obtain ⟨ns, hn, q⟩ := asO_inv q
  obtain ⟨p, ws, rfl, h1, l1, r1⟩ := pk.lst e
  rw [blsOf_inv hn] at r1
  have z := r1.bls
  subst z
  exact ⟨p, ns, rfl, SqL.of h1, kk _ _ F H (.refl e) (.bl _) q⟩
/-- tuple(x), list(x) -/
def kTuple : KC := k1c fun d Q => match d with
  | .lst ds => Q (.tup ds)
  | .frl ds => Q (.tup ds)
  | .tup ds => Q (.tup ds)
  | _ => False
theorem cd_tuple : CallD X (.type "tuple") kTuple := by
  refine ⟨_, call_tuple_of, fun ds vs F H Qd Q e ps kk q => ?_⟩
  obtain ⟨d, rfl, q⟩ := k1c_inv q
  obtain ⟨v, rfl, pk⟩ := pks1 ps
  cases d <;> first | exact False.elim q | skip
  · obtain ⟨p, ws, rfl, h1, l1, r1⟩ := pk.tup e
    exact ⟨p, ws, rfl, .inr ⟨h1, kk _ _ F H (.refl e) (by rcases pk with pk | ⟨_, _, _, z, _⟩; exact pk; cases z) q⟩⟩
  · obtain ⟨p, ws, rfl, h1, l1, r1⟩ := pk.lst e
    refine ⟨p, ws, rfl, .inl ⟨SqL.of h1, fun n nn => ?_⟩⟩
    obtain ⟨g4, r4⟩ := Go.tup e r1 l1 nn
    exact kk _ _ _ _ g4 r4 q
  · obtain ⟨p, ws, rfl, h1, l1, r1⟩ := pk.frl e
    refine ⟨p, ws, rfl, .inl ⟨h1, fun n nn => ?_⟩⟩
    obtain ⟨g4, r4⟩ := Go.tup e r1 l1 nn
    exact kk _ _ _ _ g4 r4 q
def kList : KC := k1c fun d Q => match d with
  | .lst ds => Q (.lst ds)
  | .frl ds => Q (.lst ds)
  | .tup ds => Q (.lst ds)
  | _ => False
theorem cd_list : CallD X (.type "list") kList := by
  refine ⟨_, call_list_of, fun ds vs F H Qd Q e ps kk q => ?_⟩
  obtain ⟨d, rfl, q⟩ := k1c_inv q
  obtain ⟨v, rfl, pk⟩ := pks1 ps
  cases d <;> first | exact False.elim q | skip
  · obtain ⟨p, ws, rfl, h1, l1, r1⟩ := pk.tup e
    refine ⟨p, ws, rfl, .inr h1, fun n nn => ?_⟩
    obtain ⟨g4, r4⟩ := Go.lst e r1 l1 nn
    exact kk _ _ _ _ g4 r4 q
  · obtain ⟨p, ws, rfl, h1, l1, r1⟩ := pk.lst e
    refine ⟨p, ws, rfl, .inl (SqL.of h1), fun n nn => ?_⟩
    obtain ⟨g4, r4⟩ := Go.lst e r1 l1 nn
    exact kk _ _ _ _ g4 r4 q
  · obtain ⟨p, ws, rfl, h1, l1, r1⟩ := pk.frl e
    refine ⟨p, ws, rfl, .inl h1, fun n nn => ?_⟩
    obtain ⟨g4, r4⟩ := Go.lst e r1 l1 nn
    exact kk _ _ _ _ g4 r4 q
end
end Dl

/-! The D-layer, part 4: isinstance, defs called, fields, methods. -/
namespace Dl
open PySem PySem.Spec
open PyProof.Rows L2
section
variable {X : Cx} {W : WX} {e a b c : Expr} {es : List Expr} {t ta tb tc : TD} {ts : TDs} {pos : Pos}
/-! ### isinstance -/
/-- a built-in type's name of a tree -/
def tyN : D → Option String
  | .non => some "NoneType"
  | .bl _ => some "bool"
  | .int _ => some "int"
  | .str _ => some "str"
  | .tup _ => some "tuple"
  | .lst _ => some "list"
  | .frl _ => some "list"
  | .dic _ => some "dict"
  | _ => none
theorem tyx_of {K : PySem.W.Frag} {H : Hp} {d : D} {v : V} {n : String} (r : Rep K H d v) (h : tyN d = some n) : TyX K H v (.type n) := by
  cases r with
  | non => cases h; exact .base .non
  | bl b => cases h; exact .base (.bl b)
  | int i => cases h; exact .base (.int i)
  | str x => cases h; exact .base (.str x)
  | ty n => cases h
  | cls C => cases h
  | ob v => cases h
  | tup s l r =>
    cases h
    exact .base (.tup s)
  | lst s l r => cases h; exact .base (.lst s)
  | frl s l r =>
    cases h
    rcases s with (s | ⟨o, s⟩) | ⟨o, its, n, k, c, _⟩
    · exact .base (.lst s)
    · exact .base (.frz s)
    · exact .kList k c
  | ins s r => cases h
  | dic s r => cases h; exact .base (.dK s)
/-- whether a tree is of a built-in type, for the types that are asked for -/
def isB (x : D) (n : String) : Option Bool := (tyN x).bind fun m => kitB m n
/-- what isinstance asks of the text about a class of its own -/
structure InsTy (K : PySem.W.Frag) (C : Addr) : Prop where
  cl : Cls K C
  ha : PySem.W.findIn K (.ref C) "__class__" = some (some (.builtin "object.__class__"))
  hn : PySem.W.specialIn K (.builtin "object.__class__") "__get__" = some (some (.builtin "getset_descriptor.__get__"))
  htk : PySem.W.takesIn K (.builtin "object.__class__") = some true
  hm : PySem.W.mroIn K C (.type "object") = some true
def kIsi (K : PySem.W.Frag) : KC := k2c fun x c Q => match c with
  | .ty n => (match x with
    | .ins C _ => InsTy K C ∧ asO (fun b => Q (.bl b)) (PySem.W.kitOne K (.ref C) (.type n))
    | x => asO (fun b => Q (.bl b)) (isB x n))
  | .cls C' => (match x with
    | .ins C _ => InsTy K C ∧ asO (fun b => Q (.bl b)) (PySem.W.kitOne K (.ref C) (.ref C'))
    | x => asO (fun m => asO (fun b => Q (.bl b)) (PySem.W.kitOne K (.type m) (.ref C'))) (tyN x))
  | _ => False
theorem isi_run {K : PySem.W.Frag} {F H : Hp} {x c : D} {vx vc : V} {t u : Value} {b : Bool} {Qd : EQ} {Q : VK} (e : Same F H) (ty : TyX K H vx t) (cv : ClsV vc u) (k : PySem.W.kitOne K t u = some b)
    (kk : ∀ d v F' H', Go F H F' H' → Rep K F' d v → Qd d → Q v H') (q : Qd (.bl b)) : rIsi K [vx, vc] H Q := ⟨vx, vc, t, u, b, rfl, cv, ty, k, kk _ _ F H (.refl e) (.bl _) q⟩
theorem cd_isi {K : PySem.W.Frag} (hK : X.K = K := by rfl) : CallD X (.builtin "isinstance") (kIsi K) := by
  subst hK
  refine ⟨_, call_isi, fun ds vs F H Qd Q e ps kk q => ?_⟩
  obtain ⟨x, c, rfl, q⟩ := k2c_inv q
  obtain ⟨vx, vc, rfl, px, pc⟩ := pks2 ps
  have rx := px.rep e
  have rc := pc.rep e
  have base : ∀ {u : Value}, ClsV vc u → ∀ {m : String} {b : Bool}, tyN x = some m → PySem.W.kitOne X.K (.type m) u = some b → Qd (.bl b) → rIsi X.K [vx, vc] H Q := fun cv m b h1 h2 h3 => isi_run (x := x) (c := c) e (tyx_of rx h1) cv h2 kk h3
  have own : ∀ {u : Value}, ClsV vc u → ∀ {C : Addr} {fs : List (Str × D)} {b : Bool}, x = .ins C fs → InsTy X.K C → PySem.W.kitOne X.K (.ref C) u = some b → Qd (.bl b) → rIsi X.K [vx, vc] H Q := fun cv C fs b h1 i h2 h3 => by
    subst h1
    cases rx with
    | ins s r => exact isi_run (x := .ins C fs) (c := c) e (.base (.ins s i.cl i.ha i.hn i.htk i.hm)) cv h2 kk h3
  cases c <;> first | exact False.elim q | skip
  · cases rc
    rename_i n _
    have cv := ClsV.ty n
    by_cases hx : ∃ C fs, x = .ins C fs
    · obtain ⟨C, fs, rfl⟩ := hx
      obtain ⟨i, q⟩ := q
      obtain ⟨b, h1, h2⟩ := asO_inv q
      exact own cv rfl i h1 h2
    · have q' : asO (fun b => Qd (.bl b)) (isB x n) := by
        cases x <;> first | exact q | exact absurd ⟨_, _, rfl⟩ hx
      obtain ⟨b, h1, h2⟩ := asO_inv q'
      obtain ⟨m, h3, h4⟩ := Option.bind_eq_some_iff.mp h1
      exact base cv h3 (kit_ty h4) h2
  · cases rc
    rename_i C' _
    have cv := ClsV.own C'
    by_cases hx : ∃ C fs, x = .ins C fs
    · obtain ⟨C, fs, rfl⟩ := hx
      obtain ⟨i, q⟩ := q
      obtain ⟨b, h1, h2⟩ := asO_inv q
      exact own cv rfl i h1 h2
    · have q' : asO (fun m => asO (fun b => Qd (.bl b)) (PySem.W.kitOne X.K (.type m) (.ref C'))) (tyN x) := by
        cases x <;> first | exact q | exact absurd ⟨_, _, rfl⟩ hx
      obtain ⟨m, h1, h2⟩ := asO_inv q'
      obtain ⟨b, h3, h4⟩ := asO_inv h2
      exact base cv h1 h3 h4

/-! ### defs -/
/-- what a def promises, by trees: the arguments, what is wanted of its value, of an exception -/
abbrev DF := List D → EQ → EQ → Prop
def spD (K : PySem.W.Frag) (n : Nat) (G : DF) : Sp := fun vs H Q E => ∃ (ds : List D) (F : Hp) (Qd Ed : EQ), Same F H ∧ Reps K F ds vs ∧ ds.length = n ∧ G ds Qd Ed ∧
  (∀ d v F' H', Go F H F' H' → Rep K F' d v → Qd d → Q v H') ∧ (∀ x cls dx F' H', Go F H F' H' → XRep K F' H' x cls dx → Ed x → E cls dx H')
/-- a def of the text as it stands, with its promise -/
structure FD (P : Program) (w : World) (K : PySem.W.Frag) (mg : Str → Option Value) (base : Heap) (k : Nat) (f : Addr) (n : Nat) (dd : List D) (G : DF) : Prop where
  ok : ∃ (fd : FuncData) (ps : List Str) (dvs : List V) (ds : List Value), FnOk P w K mg base (L2.CX P w) k f fd ps (spD K n G) ∧ Binds K fd ps ds ∧ Vals dvs ds ∧ (∀ F, Reps K F dd dvs)
  kp : PySem.W.keepIn K (.ref f) = true
def dCall (n : Nat) (dd : List D) (G : DF) (ts : TDs) : TD := fun ρ Q E => ts ρ (fun ds => (ds ++ dd).length = n ∧ G (ds ++ dd) Q E) E
theorem call_run {K : PySem.W.Frag} {n : Nat} {dd : List D} {G : DF} {ts : TDs} {ta : TA} {dvs : List V} {ρ : Env'} {σ : L2.St} {F H : Hp} {Qd E : EQ} {Q : VK}
    (h2 : ∀ (ρ : Env') (σ : L2.St) (F H : Hp) (Qd : List D → Prop) (E : EQ) (Q : List V → Hp → Prop), Rl K ρ σ F H → XP K W σ F H E → (∀ ds vs F' H', Go F H F' H' → Reps K F' ds vs → Qd ds → Q vs H') → ts ρ Qd E → ta σ H Q)
    (hd : ∀ F, Reps K F dd dvs) (rl : Rl K ρ σ F H) (xp : XP K W σ F H E) (kk : ∀ d v F' H', Go F H F' H' → Rep K F' d v → Qd d → Q v H') (q : dCall n dd G ts ρ Qd E) : tCallSD (spD K n G) dvs (WE W) ta σ H Q := by
  refine h2 ρ σ F H _ E _ rl xp (fun ds vs F1 H1 g1 r1 q1 => ?_) q
  exact ⟨ds ++ dd, F1, Qd, E, g1.fh, r1.append (hd F1), q1.1, q1.2, fun d v F' H' g r qd => kk d v F' H' (g1.trans g) r qd, fun x cls dx F' H' g r ex => xp x cls dx F' H' (g1.trans g) r ex⟩
theorem re_call {k n : Nat} {f : Addr} {dd : List D} {G : DF} {x : Str} {p : Pos} (h : FD X.prog X.w X.K X.mg X.base k f n dd G) (hr : Room k X.A) (hm : X.mg x = some (.ref f)) (tk : Takes X W) (ha : RA X W (e :: es) ts)
    (hg : Gl X x := by rfl) (hdb : (x == ("__debug__" : Str)) = false := by decide) (he : starEach (e :: es) X.env = (false, eval e X.env) :: starEach es X.env := by rfl) (hpl : (backTo pos (starEach es X.env)).any (·.1) = false := by rfl) :
    RE X W (.Call (.Name x p) (e :: es) [] pos) (dCall n dd G ts) := by
  obtain ⟨fd, ps, dvs, dsv, F, bn, vl, hd⟩ := h.ok
  obtain ⟨ta, h1, h2⟩ := ha.run
  exact ⟨_, pe_callSD F hr hg hm h.kp bn vl (fun σ => passAt tk σ) h1 hdb he hpl, fun ρ σ F H Qd E Q rl xp kk q => call_run h2 hd rl xp kk q⟩

/-! ### fields -/
def FldOk (K : PySem.W.Frag) (C : Addr) (f : Str) : Prop := Cls K C ∧ NoAttr K C f
def dFld (K : PySem.W.Frag) (f : Str) (t : TD) : TD := fun ρ Q E => t ρ (fun x => match x with
  | .ins C fs => FldOk K C f ∧ asO Q (fs.lookup f)
  | _ => False) E
theorem re_fld {K : PySem.W.Frag} {f : Str} (he : RE X W e t) (hK : X.K = K := by rfl) (hb : attributeBase e f X.env (eval e X.env) = eval e X.env := by rfl) : RE X W (.Attribute e f pos) (dFld K f t) := by
  subst hK
  obtain ⟨te, h1, h2⟩ := he.run
  refine ⟨_, pe_fld h1 hb, fun ρ σ F H Qd E Q rl xp kk q => h2 ρ σ F H _ E _ rl xp (fun x vx F1 H1 g1 r1 q1 => ?_) q⟩
  cases x <;> first | exact False.elim q1 | skip
  cases r1 with
  | ins s r =>
    obtain ⟨d, h3, h4⟩ := asO_inv q1.2
    obtain ⟨v, h5, h6⟩ := r.look h3
    exact ⟨_, _, _, _, v, rfl, g1.fh _ _ s, q1.1.1, q1.1.2, h5, kk _ _ F1 H1 g1 h6 h4⟩
/-! ### methods of one's own classes -/
/-- a method (not raised at the slots alone): the receiver, the arguments -/
def tMethS (C : Addr) (m : Str) (sp : Sp) (E : L2.St → XK) (ta : TE) (u : TA) : TE := fun σ H Q => ta σ H fun x H1 => ∃ (a dx : Addr) (fs : List (Str × V)), x = .ref a ∧ H1 a = some (.ins C dx fs) ∧ fs.lookup m = none ∧
  u σ H1 fun vs H2 => sp (x :: vs) H2 Q (E σ)
theorem pe_methS {CX : CXT} {k : Nat} {f C : Addr} {fd : FuncData} {ps : List Str} {sp : Sp} {E : L2.St → XK} {m : Str} {apos : Pos} {o : Expr} {te : TE} {u : TA} {pl : Sem Bool}
    (he : PE X o te) (c : Cls X.K C) (hm : Meth X.K C m f) (F : FnOk X.prog X.w X.K X.mg X.base CX k f fd ps sp) (hr : Room k X.A) (hb : Binds X.K fd ps []) (hx : ∀ σ, PassesAt CX X σ (E σ)) (ha : PA X (e :: es) u)
    (hst : starEach (e :: es) X.env = (false, eval e X.env) :: starEach es X.env) (hpl : (backTo pos (starEach es X.env)).any (·.1) = false)
    (ht : eval (.Call (.Attribute o m apos) (e :: es) [] pos) X.env = (eval o X.env >>= fun ov => standAt apos.atName >>= fun _ => holding [ov] (getMethod ov m pl) >>= fun (g : Value × List Value) => callWith pos g.1 g.2 (backTo pos (starEach (e :: es) X.env)) (backToKw pos (keywordEach [] X.env)))) :
    PE X (.Call (.Attribute o m apos) (e :: es) [] pos) (tMethS C m sp E te u) := by
  refine ⟨fun pins s σ H Q I h => ?_⟩
  refine PySem.W.methodCall_KW (pl := pl) (thn (he.run pins s σ H _ I h) fun w s1 hh => ?_) ht
  obtain ⟨x, H1, I1, rx, a, dx, fs, ex, ea, l, q⟩ := hh
  subst ex
  obtain rfl : w = Value.ref a := rx
  refine getmeth_ok I1 ea c hm l ?_
  refine PySem.W.callWith_K (first := [.ref a]) (h₀ := X.base) I.ok.mod.kin hm.kp (thn (ha.run pos pins s1 σ H1 _ I1 q) fun us s2 hh2 => ?_) hst hpl
  obtain ⟨vs, H2, I2, r, q2⟩ := hh2
  exact ⟨I2.kIn, run_fnS (us := .ref a :: us) (vs := .ref a :: vs) F hr hb (hx σ) I2 (.cons rfl r) q2⟩
theorem pe_methS0 {CX : CXT} {k : Nat} {f C : Addr} {fd : FuncData} {ps : List Str} {sp : Sp} {E : L2.St → XK} {m : Str} {apos : Pos} {o : Expr} {te : TE} {pl : Sem Bool}
    (he : PE X o te) (c : Cls X.K C) (hm : Meth X.K C m f) (F : FnOk X.prog X.w X.K X.mg X.base CX k f fd ps sp) (hr : Room k X.A) (hb : Binds X.K fd ps []) (hx : ∀ σ, PassesAt CX X σ (E σ))
    (ht : eval (.Call (.Attribute o m apos) [] [] pos) X.env = (eval o X.env >>= fun ov => standAt apos.atName >>= fun _ => holding [ov] (getMethod ov m pl) >>= fun (g : Value × List Value) => callWith pos g.1 g.2 (backTo pos (starEach [] X.env)) (backToKw pos (keywordEach [] X.env)))) :
    PE X (.Call (.Attribute o m apos) [] [] pos) (tMethS C m sp E te tNil) := by
  refine ⟨fun pins s σ H Q I h => ?_⟩
  refine PySem.W.methodCall_KW (pl := pl) (thn (he.run pins s σ H _ I h) fun w s1 hh => ?_) ht
  obtain ⟨x, H1, I1, rx, a, dx, fs, ex, ea, l, q⟩ := hh
  subst ex
  obtain rfl : w = Value.ref a := rx
  refine getmeth_ok I1 ea c hm l ?_
  exact PySem.W.callWith_K0 (first := [.ref a]) I1.kIn hm.kp (run_fnS (us := [.ref a]) (vs := [.ref a]) F hr hb (hx σ) I1 (.cons rfl .nil) q)
/-- the receiver an instance of the class at C -/
def dMeth (C : Addr) (m : Str) (n : Nat) (G : DF) (t : TD) (ts : TDs) : TD := fun ρ Q E => t ρ (fun x => match x with
  | .ins C' fs => C' = C ∧ fs.lookup m = none ∧ ts ρ (fun ds => ds.length + 1 = n ∧ G (x :: ds) Q E) E
  | _ => False) E
theorem meth_run {K : PySem.W.Frag} {C : Addr} {m : Str} {n : Nat} {G : DF} {te : TE} {ta : TA} {ρ : Env'} {σ : L2.St} {F H : Hp} {Qd E : EQ} {Q : VK}
    (h1 : ∀ (ρ : Env') (σ : L2.St) (F H : Hp) (Qd E : EQ) (Q : VK), Rl K ρ σ F H → XP K W σ F H E → (∀ d v F' H', Go F H F' H' → Rep K F' d v → Qd d → Q v H') → t ρ Qd E → te σ H Q)
    (h2 : ∀ (ρ : Env') (σ : L2.St) (F H : Hp) (Qd : List D → Prop) (E : EQ) (Q : List V → Hp → Prop), Rl K ρ σ F H → XP K W σ F H E → (∀ ds vs F' H', Go F H F' H' → Reps K F' ds vs → Qd ds → Q vs H') → ts ρ Qd E → ta σ H Q)
    (rl : Rl K ρ σ F H) (xp : XP K W σ F H E) (kk : ∀ d v F' H', Go F H F' H' → Rep K F' d v → Qd d → Q v H') (q : dMeth C m n G t ts ρ Qd E) : tMethS C m (spD K n G) (WE W) te ta σ H Q := by
  refine h1 ρ σ F H _ E _ rl xp (fun x vx F1 H1 g1 r1 q1 => ?_) q
  cases x <;> first | exact False.elim q1 | skip
  obtain ⟨rfl, q2, q3⟩ := q1
  cases id r1 with
  | ins s r =>
    refine ⟨_, _, _, rfl, g1.fh _ _ s, r.none q2, ?_⟩
    refine h2 ρ σ F1 H1 _ E _ (rl.go g1) (xp.go g1) (fun ds vs F2 H2 g2 r2 q4 => ?_) q3
    exact ⟨_ :: ds, F2, Qd, E, g2.fh, .cons (r1.mono g2.ff) r2, q4.1, q4.2, fun d v F' H' g r qd => kk d v F' H' ((g1.trans g2).trans g) r qd, fun x cls dx F' H' g r ex => xp x cls dx F' H' ((g1.trans g2).trans g) r ex⟩
/-- a def without defaults -/
structure FN (P : Program) (w : World) (K : PySem.W.Frag) (mg : Str → Option Value) (base : Heap) (k : Nat) (f : Addr) (n : Nat) (G : DF) : Prop where
  ok : ∃ (fd : FuncData) (ps : List Str), FnOk P w K mg base (L2.CX P w) k f fd ps (spD K n G) ∧ Binds K fd ps []
  kp : PySem.W.keepIn K (.ref f) = true
theorem FN.d {P : Program} {w : World} {K : PySem.W.Frag} {mg : Str → Option Value} {base : Heap} {k n : Nat} {f : Addr} {G : DF} (h : FN P w K mg base k f n G) : FD P w K mg base k f n [] G := by
  obtain ⟨fd, ps, F, b⟩ := h.ok
  exact ⟨⟨fd, ps, [], [], F, b, .nil, fun _ => .nil⟩, h.kp⟩
theorem re_meth {k n : Nat} {f C : Addr} {G : DF} {m : Str} {apos : Pos} {o : Expr} {pl : Sem Bool} (he : RE X W o t) (c : Cls X.K C) (hm : Meth X.K C m f) (h : FN X.prog X.w X.K X.mg X.base k f n G) (hr : Room k X.A) (tk : Takes X W) (ha : RA X W (e :: es) ts)
    (hst : starEach (e :: es) X.env = (false, eval e X.env) :: starEach es X.env := by rfl) (hpl : (backTo pos (starEach es X.env)).any (·.1) = false := by rfl)
    (ht : eval (.Call (.Attribute o m apos) (e :: es) [] pos) X.env = (eval o X.env >>= fun ov => standAt apos.atName >>= fun _ => holding [ov] (getMethod ov m pl) >>= fun (g : Value × List Value) => callWith pos g.1 g.2 (backTo pos (starEach (e :: es) X.env)) (backToKw pos (keywordEach [] X.env))) := by rfl) :
    RE X W (.Call (.Attribute o m apos) (e :: es) [] pos) (dMeth C m n G t ts) := by
  obtain ⟨fd, ps, F, bn⟩ := h.ok
  obtain ⟨te, h1, h2⟩ := he.run
  obtain ⟨ta, a1, a2⟩ := ha.run
  exact ⟨_, pe_methS (pl := pl) h1 c hm F hr bn (fun σ => passAt tk σ) a1 hst hpl ht, fun ρ σ F H Qd E Q rl xp kk q => meth_run h2 a2 rl xp kk q⟩
theorem re_meth0 {k n : Nat} {f C : Addr} {G : DF} {m : Str} {apos : Pos} {o : Expr} {pl : Sem Bool} (he : RE X W o t) (c : Cls X.K C) (hm : Meth X.K C m f) (h : FN X.prog X.w X.K X.mg X.base k f n G) (hr : Room k X.A) (tk : Takes X W)
    (ht : eval (.Call (.Attribute o m apos) [] [] pos) X.env = (eval o X.env >>= fun ov => standAt apos.atName >>= fun _ => holding [ov] (getMethod ov m pl) >>= fun (g : Value × List Value) => callWith pos g.1 g.2 (backTo pos (starEach [] X.env)) (backToKw pos (keywordEach [] X.env))) := by rfl) :
    RE X W (.Call (.Attribute o m apos) [] [] pos) (dMeth C m n G t dNil) := by
  obtain ⟨fd, ps, F, bn⟩ := h.ok
  obtain ⟨te, h1, h2⟩ := he.run
  exact ⟨_, pe_methS0 (pl := pl) h1 c hm F hr bn (fun σ => passAt tk σ) ht, fun ρ σ F H Qd E Q rl xp kk q => meth_run (ta := tNil) h2 (fun ρ σ F H Qd E Q rl xp kk q => kk [] [] F H (.refl rl.fh) .nil q) rl xp kk q⟩
/-- one of two readings (a receiver of one of two classes) -/
theorem RE.or {t' : TD} (h : RE X W e t) (h' : RE X W e t') : RE X W e (fun ρ Q E => t ρ Q E ∨ t' ρ Q E) := by
  obtain ⟨te, h1, h2⟩ := h.run
  obtain ⟨te', h1', h2'⟩ := h'.run
  refine ⟨fun σ H Q => te σ H Q ∨ te' σ H Q, ⟨fun pins s σ H Q I hw => hw.elim (h1.run pins s σ H Q I) (h1'.run pins s σ H Q I)⟩, fun ρ σ F H Qd E Q rl xp kk q => ?_⟩
  exact q.elim (fun z => .inl (h2 ρ σ F H Qd E Q rl xp kk z)) fun z => .inr (h2' ρ σ F H Qd E Q rl xp kk z)
end
end Dl

/-! The D-layer, part 5: zip of any two of lists and tuples. -/
namespace Dl
open PySem PySem.Spec
open PyProof.Rows L2
/-- a list (true) or a tuple (false) -/
def SqA (k : Bool) (K : PySem.W.Frag) (H : Hp) (a : Addr) (xs : List V) : Prop := match k with
  | true => SqL K H a xs
  | false => SqT K H a xs
def ItA (k : Bool) (h : Heap) (it a : Addr) (i : Nat) : Prop := match k with
  | true => h.IsListIter it a i
  | false => h.IsTupleIter it a i
def ObA (k : Bool) (h : Heap) (a : Addr) (xs : Array Value) : Prop := match k with
  | true => h.IsList a xs
  | false => h.IsTuple a xs
theorem drawsA {prog : Program} {w : World} {A : Around} (k : Bool) (hh : A.handled = none) (it l : Addr) (ne : l ≠ it) (its : Array Value) :
    Draws prog w A it [it, l] its.size (fun i v => its[i]? = some v) (fun i h => ItA k h it l i ∧ ObA k h l its) := by
  cases k
  · exact Draws.tuple hh it l ne its
  · exact Draws.list hh it l ne its
theorem ItA.there {k : Bool} {h : Heap} {it a : Addr} {i : Nat} (x : ItA k h it a i) : ∃ o, h.get? it = some o ∧ ∀ v, o.data ≠ .cell v := by
  cases k
  · obtain ⟨o, e, _, d⟩ := (show h.IsTupleIter it a i from x); exact ⟨o, e, fun v q => by rw [d] at q; cases q⟩
  · obtain ⟨o, e, _, d⟩ := (show h.IsListIter it a i from x); exact ⟨o, e, fun v q => by rw [d] at q; cases q⟩
theorem ItA.at' {k : Bool} {h h' : Heap} {it a : Addr} {i : Nat} (x : ItA k h it a i) (f : ∀ o, h.get? it = some o → h'.get? it = some o) : ItA k h' it a i := by
  cases k
  · exact (show h.IsTupleIter it a i from x).at f
  · exact (show h.IsListIter it a i from x).at f
section
variable {X : Cx} {pins : List (Addr × Obj)} {σ : L2.St} {H : Hp} {s : Shared} {a : Addr} {xs ys : List V} {k : Bool}
theorem inv_seq (I : Inv X pins σ H s) (h : SqA k X.K H a xs) : ∃ its : List Value, Vals xs its ∧ ObA k s.heap a its.toArray ∧ a < s.heap.objs.size := by
  cases k
  · obtain ⟨its, r, p, _⟩ := I.tuple (show SqT X.K H a xs from h)
    exact ⟨its, r, p, p.lt⟩
  · obtain ⟨its, r, p, _⟩ := I.list (show SqL X.K H a xs from h)
    exact ⟨its, r, p.isList, p.lt⟩
theorem inv_seq_inj (I : Inv X pins σ H s) (h : SqA k X.K H a xs) (h' : SqA k X.K H a ys) : xs = ys := by
  cases k
  · exact I.tuple_inj h h'
  · exact I.list_inj h h'
end
/-- the turns of a zip: while both stand, a new pair -/
def ItzA (k1 k2 : Bool) (K : PySem.W.Frag) (a b : Addr) : It where
  go := fun i H => ∃ (xs ys : List V) (x y : V), SqA k1 K H a xs ∧ SqA k2 K H b ys ∧ xs[i]? = some x ∧ ys[i]? = some y
  yld := fun i H v H' => ∃ (T : Addr) (x y : V), v = .ref T ∧ H T = none ∧ H' = upd H T (.tup [x, y]) ∧ (∀ xs, SqA k1 K H a xs → xs[i]? = some x) ∧ (∀ ys, SqA k2 K H b ys → ys[i]? = some y)
  stop := fun i H => ∃ xs ys : List V, SqA k1 K H a xs ∧ SqA k2 K H b ys ∧ i ≤ xs.length ∧ i ≤ ys.length ∧ (i = xs.length ∨ i = ys.length)
theorem turn_zipM {P : Program} {w : World} {K : PySem.W.Frag} {k1 k2 : Bool} {elts : List Expr} {kk : Nat} {tpos : Pos} {a b z TI TO i1 i2 : Addr} (S : ZipSep2 z TI TO i1 i2 [i1, a] [i2, b]) (na : a ≠ i1) (nb : b ≠ i2) :
    Turn P w K (.Tuple elts kk tpos) (ItzA k1 k2 K a b) [z, TI, TO, i1, i2] z (fun i h => IsZip h z TI TO .none ∧ IsTupOf2 h TI (.ref i1) (.ref i2) ∧ (∃ x y, IsTupOf2 h TO x y) ∧ ItA k1 h i1 a i ∧ ItA k2 h i2 b i) where
  mem := by simp
  obj := by
    rintro i h ⟨hz, hTI, ⟨x, y, hTO⟩, h1, h2⟩ c hc
    have cs : c = z ∨ c = TI ∨ c = TO ∨ c = i1 ∨ c = i2 := by simpa using hc
    rcases cs with rfl | rfl | rfl | rfl | rfl
    · exact ⟨_, hz, fun v q => nomatch q⟩
    · exact ⟨_, hTI, fun v q => nomatch q⟩
    · exact ⟨_, hTO, fun v q => nomatch q⟩
    · exact h1.there
    · exact h2.there
  keep := by
    rintro i h h' ⟨hz, hTI, ⟨x, y, hTO⟩, h1, h2⟩ kp
    exact ⟨kp z (by simp) _ hz, kp TI (by simp) _ hTI, ⟨x, y, kp TO (by simp) _ hTO⟩, h1.at' (kp i1 (by simp)), h2.at' (kp i2 (by simp))⟩
  item := by
    intro X hP hw hK hc i pins s σ H E I hf st hg
    subst hP hw hK
    obtain ⟨hz, hTI, ⟨x0, y0, hTO⟩, h1, h2⟩ := st
    obtain ⟨xs, ys, x, y, sx, sy, hx, hy⟩ := hg
    obtain ⟨its, rv, ob, _⟩ := inv_seq I sx
    obtain ⟨its2, rv2, ob2, _⟩ := inv_seq I sy
    have zl : z < s.heap.objs.size := Heap.lt_size hz
    have lx : i < its.toArray.size := by
      have := (List.getElem?_eq_some_iff.mp hx).1
      rw [List.size_toArray, ← rv.length]; exact this
    have ly : i < its2.toArray.size := by
      have := (List.getElem?_eq_some_iff.mp hy).1
      rw [List.size_toArray, ← rv2.length]; exact this
    have hh := I.ok.hd hc
    have D1 := drawsA (prog := X.prog) (w := X.w) (A := X.A.in1) k1 hh i1 a na its.toArray
    have D2 := drawsA (prog := X.prog) (w := X.w) (A := X.A.in1) k2 hh i2 b nb its2.toArray
    refine wpAny_pyNext_zipD2_item S D1 D2 hz hTI hTO ⟨h1, ob⟩ ⟨h2, ob2⟩ lx ly ?_
    intro u u2 h' tk pu pu2 z' TO' d1 d2 hT hsz hk
    obtain ⟨w1, e1, ru⟩ := rv.get hx
    obtain ⟨w2, e2, ru2⟩ := rv2.get hy
    have q1 : w1 = u := by
      have pu : its.toArray[i]? = some u := pu
      rw [List.getElem?_toArray, e1] at pu
      exact Option.some.inj pu
    have q2 : w2 = u2 := by
      have pu2 : its2.toArray[i]? = some u2 := pu2
      rw [List.getElem?_toArray, e2] at pu2
      exact Option.some.inj pu2
    subst q1; subst q2
    refine ⟨_, rfl, wpAny_letOwnedTupleGo_zip (s := { s with heap := h', toks := tk }) z' fun h'' z'' sb => ?_⟩
    have hT2 := (sb.2 _ (Nat.ne_of_gt zl)).trans hT
    have new : ObjOk X.prog X.w (upd H s.heap.objs.size (.tup [x, y])) h'' s.heap.objs.size (.tup [x, y]) :=
      ⟨by show 2 ≤ sizeLine; decide, [w1, w2], .cons ru (.cons ru2 .nil), _, hT2, rfl, _, rfl⟩
    have kp : ∀ c o, c ∉ [z, TI, TO, i1, i2] → s.heap.get? c = some o → h''.get? c = some o := fun c o nc e => by
      simp only [List.mem_cons, List.not_mem_nil, or_false, not_or] at nc
      exact (sb.2 c nc.1).trans (hk c o nc.1 nc.2.2.1 nc.2.2.2.1 nc.2.2.2.2 e)
    have I1 := I.turnedNew (t' := tk) (ch := [z, TI, TO, i1, i2]) kp hf (Nat.le_refl _) new
    refine ⟨.ref s.heap.objs.size, _, I1, rfl, ⟨_, x, y, rfl, I.hok.fresh (Nat.le_refl _), rfl, fun l hl => ?_, fun l hl => ?_⟩, ⟨z'', ?_, ⟨w1, w2, ?_⟩, ?_, ?_⟩, fun c hcm => ?_⟩
    · rw [inv_seq_inj I hl sx]; exact hx
    · rw [inv_seq_inj I hl sy]; exact hy
    · exact (sb.2 _ S.TIz).trans (hk _ _ S.TIz S.TITO S.TIi1 S.TIi2 hTI)
    · exact (sb.2 _ S.TOz).trans TO'
    · exact d1.1.at' fun o q => (sb.2 _ S.zi1.symm).trans q
    · exact d2.1.at' fun o q => (sb.2 _ S.zi2.symm).trans q
    · have lt : c < s.heap.objs.size := by
        have cs : c = z ∨ c = TI ∨ c = TO ∨ c = i1 ∨ c = i2 := by simpa using hcm
        rcases cs with rfl | rfl | rfl | rfl | rfl
        · exact zl
        · exact Heap.lt_size hTI
        · exact Heap.lt_size hTO
        · obtain ⟨_, e, _⟩ := h1.there; exact Heap.lt_size e
        · obtain ⟨_, e, _⟩ := h2.there; exact Heap.lt_size e
      rw [upd_ne (Nat.ne_of_lt lt)]
      exact (hf c hcm).1
  done := by
    intro X hP hw hK hc i pins s σ H E I hf st hg
    subst hP hw hK
    obtain ⟨hz, hTI, ⟨x0, y0, hTO⟩, h1, h2⟩ := st
    obtain ⟨xs, ys, sx, sy, l1, l2, fin⟩ := hg
    obtain ⟨its, rv, ob, _⟩ := inv_seq I sx
    obtain ⟨its2, rv2, ob2, _⟩ := inv_seq I sy
    have z1 : its.toArray.size = xs.length := by rw [List.size_toArray, ← rv.length]
    have z2 : its2.toArray.size = ys.length := by rw [List.size_toArray, ← rv2.length]
    have hh := I.ok.hd hc
    have D1 := drawsA (prog := X.prog) (w := X.w) (A := X.A.in1) k1 hh i1 a na its.toArray
    have D2 := drawsA (prog := X.prog) (w := X.w) (A := X.A.in1) k2 hh i2 b nb its2.toArray
    refine wpAny_pyNext_zipD2_end S D1 D2 hz hTI hTO ⟨h1, ob⟩ ⟨h2, ob2⟩ (by omega) (by omega) (by omega) fun h' tk hk => ⟨rfl, ?_⟩
    refine I.turnedL (t' := tk) (ch := [z, TI, TO, i1, i2]) (fun c o nc e => ?_) hf
    simp only [List.mem_cons, List.not_mem_nil, or_false, not_or] at nc
    exact hk c o nc.1 nc.2.2.1 nc.2.2.2.1 nc.2.2.2.2 e
  self := fun A i s Q E st h => wpAny_pyIter_zip st.1 h
theorem zip_callA {prog : Program} {w : World} {A : Around} {E : Value → Shared → Prop} {s : Shared} {Q : Value → Shared → Prop} {k1 k2 : Bool} {a b : Addr} {its its2 : Array Value} (h1 : ObA k1 s.heap a its) (h2 : ObA k2 s.heap b its2)
    (h : ∀ h' : Heap, IsZip h' (s.heap.objs.size + 4) (s.heap.objs.size + 2) (s.heap.objs.size + 3) .none → IsTupOf2 h' (s.heap.objs.size + 2) (.ref s.heap.objs.size) (.ref (s.heap.objs.size + 1)) →
      IsTupOf2 h' (s.heap.objs.size + 3) .none .none → ItA k1 h' s.heap.objs.size a 0 → ItA k2 h' (s.heap.objs.size + 1) b 0 →
      (∀ c o, s.heap.get? c = some o → h'.get? c = some o) → Q (.ref (s.heap.objs.size + 4)) { s with heap := h' }) :
    wpAny (model prog w) A (call (.type "zip") [.ref a, .ref b]) Q E s := by
  cases k1 <;> cases k2
  · exact zip_begins2 (begins_tuple a its) (begins_tuple b its2) h1 h2 fun h' q1 q2 q3 q4 q5 _ q7 => h h' q1 q2 q3 ⟨_, q4, rfl, rfl⟩ ⟨_, q5, rfl, rfl⟩ q7
  · exact zip_begins2 (begins_tuple a its) (begins_list b its2) h1 h2 fun h' q1 q2 q3 q4 q5 _ q7 => h h' q1 q2 q3 ⟨_, q4, rfl, rfl⟩ ⟨_, q5, rfl, rfl⟩ q7
  · exact zip_begins2 (begins_list a its) (begins_tuple b its2) h1 h2 fun h' q1 q2 q3 q4 q5 _ q7 => h h' q1 q2 q3 ⟨_, q4, rfl, rfl⟩ ⟨_, q5, rfl, rfl⟩ q7
  · exact zip_begins2 (begins_list a its) (begins_list b its2) h1 h2 fun h' q1 q2 q3 q4 q5 _ q7 => h h' q1 q2 q3 ⟨_, q4, rfl, rfl⟩ ⟨_, q5, rfl, rfl⟩ q7
theorem sepA (n a b : Nat) (la : a < n) (lb : b < n) : ZipSep2 (n + 4) (n + 2) (n + 3) n (n + 1) [n, a] [n + 1, b] := by
  constructor <;> first
    | (show ((_ : Nat) ≠ _); omega)
    | (simp; done)
    | (simp; (first | omega | (intro h; exact absurd h (by omega))))
    | (intro h; rcases List.mem_cons.mp h with h | h
       · exact absurd (show (_ : Nat) = _ from h) (by omega)
       · rcases List.mem_cons.mp h with h | h
         · exact absurd (show (_ : Nat) = _ from h) (by omega)
         · cases h)
theorem leA (n c : Nat) (h : c ∈ [n + 4, n + 2, n + 3, n, n + 1]) : n ≤ c := by
  simp only [List.mem_cons, List.not_mem_nil, or_false] at h
  omega
def iZipM (K : PySem.W.Frag) (ta : TA) : TI := fun σ H R => ta σ H fun vs H1 => ∃ (k1 k2 : Bool) (a b : Addr) (xs ys : List V), vs = [.ref a, .ref b] ∧ SqA k1 K H1 a xs ∧ SqA k2 K H1 b ys ∧ R (ItzA k1 k2 K a b) H1
theorem pi_zipM {X : Cx} {e e2 : Expr} {ta : TA} {p pos tpos : Pos} {elts : List Expr} {kk : Nat} (hg : Gl X "zip") (hm : X.mg "zip" = none) (ha : PA X [e, e2] ta)
    (hs : starEach [e, e2] X.env = (false, eval e X.env) :: starEach [e2] X.env) (hpl : (backTo pos (starEach [e2] X.env)).any (·.1) = false) :
    PI X (.Tuple elts kk tpos) (.Call (.Name "zip" p) [e, e2] [] pos) (iZipM X.K ta) := by
  refine ⟨fun pins s σ H R I h => ?_⟩
  refine Call_ (ld_blt I hg hm PyProof.Rows.boot_zip (PyProof.Rows.callWith_type1 (thn (ha.run pos pins s σ H _ I h) ?_) hs hpl))
  · rintro us s1 ⟨vs, H1, I1, r1, k1, k2, a, b, xs, ys, rfl, sx, sy, q⟩
    obtain ⟨u1, u2, rfl, ra, rb⟩ := vals2 r1
    cases ra; cases rb
    obtain ⟨its, rv, ob, la⟩ := inv_seq I1 sx
    obtain ⟨its2, rv2, ob2, lb⟩ := inv_seq I1 sy
    refine zip_callA ob ob2 fun h' hz hTI hTO h1 h2 hk => wpAny_pyIter_zip hz ?_
    have I2 : Inv X pins σ H1 { s1 with heap := h' } := I1.kept (t' := s1.toks) hk
    have S := sepA s1.heap.objs.size a b la lb
    refine ⟨s1.heap.objs.size + 4, _, _, _, H1, rfl, I2, turn_zipM S (Nat.ne_of_lt la) (Nat.ne_of_lt (Nat.lt_succ_of_lt lb)), ⟨hz, hTI, ⟨_, _, hTO⟩, h1, h2⟩, fun c hcm => ?_, q⟩
    have le : s1.heap.objs.size ≤ c := leA _ _ hcm
    exact I1.fpOk le (I1.hok.fresh le)
/-- n turns of such a zip -/
theorem walk_zipM {K : PySem.W.Frag} {k1 k2 : Bool} {a b : Addr} {xs ys : List V} : Walk (ItzA k1 k2 K a b) (min xs.length ys.length) (fun H => SqA k1 K H a xs ∧ SqA k2 K H b ys) (YPair (fun i => xs[i]?) (fun i => ys[i]?)) := by
  refine ⟨fun i _ hi q => ?_, fun _ q => ⟨xs, ys, q.1, q.2, by omega, by omega, by omega⟩, fun i H v H' _ q y => ?_⟩
  · have h1 : i < xs.length := by omega
    have h2 : i < ys.length := by omega
    exact ⟨xs, ys, xs[i], ys[i], q.1, q.2, by simp [h1], by simp [h2]⟩
  · obtain ⟨T, x, u, h1, h2, h3, h4, h5⟩ := y
    exact ⟨T, x, u, h1, h2, h3, h4 xs q.1, h5 ys q.2⟩
end Dl

/-! The D-layer, part 6: what is walked, comprehensions. -/
namespace Dl
open PySem PySem.Spec
open PyProof.Rows L2
/-- while F is frozen, J goes through ds -/
structure JW (K : PySem.W.Frag) (F : Hp) (J : It) (ds : List D) : Prop where
  go : ∃ (G : Hp → Prop) (Y : Nat → Hp → V → Hp → Prop), Walk J ds.length G Y ∧ (∀ F' H', Same F F' → Same F' H' → G H') ∧
    ∀ i F' H' x H'', i < ds.length → Same F F' → Same F' H' → Y i H' x H'' → ∃ F'' d, ds[i]? = some d ∧ Go F' H' F'' H'' ∧ Rep K F'' d x
structure RI (X : Cx) (W : WX) (tg iter : Expr) (t : TDs) : Prop where
  run : ∃ wi, PI X tg iter wi ∧ ∀ (ρ : Env') (σ : L2.St) (F H : Hp) (Qd : List D → Prop) (E : EQ) (R : It → Hp → Prop), Rl X.K ρ σ F H → XP X.K W σ F H E →
    (∀ ds J F' H', Go F H F' H' → JW X.K F' J ds → ds.length ≤ sizeLine → Qd ds → R J H') → t ρ Qd E → wi σ H R
section
variable {X : Cx} {W : WX} {tg e a b c : Expr} {es : List Expr} {t ta tb tc : TD} {ts : TDs} {pos : Pos}
theorem jw_seq {K : PySem.W.Frag} {F : Hp} {J : It} {ds : List D} {vs : List V} {G : Hp → Prop} (w : Walk J vs.length G (YAt vs)) (hg : ∀ F' H', Same F F' → Same F' H' → G H') (r : Reps K F ds vs) : JW K F J ds := by
  refine ⟨G, YAt vs, by rw [← r.length]; exact w, hg, fun i F' H' x H'' hi e1 e2 y => ?_⟩
  obtain ⟨rfl, y⟩ := y
  obtain ⟨d, h1, h2⟩ := r.get' y
  exact ⟨F', d, h1, .refl e2, h2.mono e1⟩
/-- over a list or a tuple -/
def asSeq (Q : List D → Prop) : EQ
  | .lst ds => Q ds
  | .frl ds => Q ds
  | .tup ds => Q ds
  | _ => False
theorem asSeq_inv {Q : List D → Prop} {d : D} (h : asSeq Q d) : ∃ ds, (d = .lst ds ∨ d = .frl ds ∨ d = .tup ds) ∧ Q ds := by
  cases d <;> first | exact False.elim h | skip
  · exact ⟨_, .inr (.inr rfl), h⟩
  · exact ⟨_, .inl rfl, h⟩
  · exact ⟨_, .inr (.inl rfl), h⟩
def dSeq (t : TD) : TDs := fun ρ Q E => t ρ (asSeq Q) E
theorem ri_seq (h : RE X W e t) : RI X W tg e (dSeq t) := by
  obtain ⟨te, h1, h2⟩ := h.run
  let wi : TI := fun σ H R => te σ H fun x H1 => ∃ a, x = .ref a ∧ (((∃ xs, SqL X.K H1 a xs) ∧ R (Itl X.K a) H1) ∨ ((∃ xs, SqT X.K H1 a xs) ∧ R (Itt X.K a) H1))
  have hp : PI X tg e wi := by
    refine ⟨fun pins s σ H R I q => ?_⟩
    refine thn (h1.run pins s σ H _ I q) fun v s1 ⟨x, H1, I1, r1, a, ex, q1⟩ => ?_
    subst ex
    cases r1
    rcases q1 with ⟨⟨xs, hq⟩, q1⟩ | ⟨⟨xs, hq⟩, q1⟩
    · obtain ⟨its, rv, p, hz⟩ := I1.list hq
      refine wpAny_pyIter_list p.isList ?_
      refine ⟨s1.heap.objs.size, [s1.heap.objs.size], _, _, H1, rfl, I1.kept (t' := s1.toks) fun b o e => Heap.get?_push_of_some _ e, turn_list a _, ⟨_, Heap.get?_push_size _ rfl, rfl, rfl⟩, fun b hb => ?_, q1⟩
      rw [List.mem_singleton.mp hb]
      exact I1.fpOk (Nat.le_refl _) (I1.hok.fresh (Nat.le_refl _))
    · obtain ⟨its, rv, p, hz⟩ := I1.tuple hq
      refine wpAny_pyIter_tuple (show s1.heap.IsTuple a its.toArray from p) ?_
      refine ⟨s1.heap.objs.size, [s1.heap.objs.size], _, _, H1, rfl, I1.kept (t' := s1.toks) fun b o e => Heap.get?_push_of_some _ e, turn_tuple a _, ⟨_, Heap.get?_push_size _ rfl, rfl, rfl⟩, fun b hb => ?_, q1⟩
      rw [List.mem_singleton.mp hb]
      exact I1.fpOk (Nat.le_refl _) (I1.hok.fresh (Nat.le_refl _))
  refine ⟨wi, hp, fun ρ σ F H Qd E R rl xp kk q => h2 ρ σ F H _ E _ rl xp (fun d v F1 H1 g1 r1 q1 => ?_) q⟩
  obtain ⟨ds, hd, q2⟩ := asSeq_inv q1
  rcases hd with rfl | rfl | rfl
  · cases r1 with
    | lst s l r =>
      exact ⟨_, rfl, .inl ⟨⟨_, SqL.of (g1.fh _ _ s)⟩, kk ds _ F1 H1 g1 (jw_seq walk_list (fun F' H' e1 e2 => SqL.of (e2 _ _ (e1 _ _ s))) r) (by rw [← r.length]; exact l) q2⟩⟩
  · cases r1 with
    | frl s l r =>
      exact ⟨_, rfl, .inl ⟨⟨_, same_seqL g1.fh s⟩, kk ds _ F1 H1 g1 (jw_seq walk_list (fun F' H' e1 e2 => same_seqL e2 (same_seqL e1 s)) r) (by rw [← r.length]; exact l) q2⟩⟩
  · cases r1 with
    | tup s l r =>
      exact ⟨_, rfl, .inr ⟨⟨_, same_seqT g1.fh (SqT.of s)⟩, kk ds _ F1 H1 g1 (jw_seq walk_tup (fun F' H' e1 e2 => same_seqT e2 (same_seqT e1 (SqT.of s))) r) (by rw [← r.length]; exact l) q2⟩⟩
/-- lo, lo + 1, .. -/
def irg (lo : Int) : Nat → List D
  | 0 => []
  | n + 1 => .int lo :: irg (lo + 1) n
theorem irg_len (n : Nat) : ∀ lo : Int, (irg lo n).length = n := by
  induction n with
  | zero => intro lo; rfl
  | succ n ih => intro lo; show (irg (lo + 1) n).length + 1 = n + 1; rw [ih]
theorem irg_get (n : Nat) : ∀ (lo : Int) (i : Nat), i < n → (irg lo n)[i]? = some (.int (lo + i)) := by
  induction n with
  | zero => intro lo i h; omega
  | succ n ih =>
    intro lo i h
    cases i with
    | zero => show some (D.int lo) = _; rw [show lo + ((0 : Nat) : Int) = lo by omega]
    | succ i =>
      show (irg (lo + 1) n)[i]? = _
      rw [ih (lo + 1) i (by omega)]
      rw [show lo + 1 + (i : Int) = lo + ((i + 1 : Nat) : Int) by omega]
theorem jw_range {K : PySem.W.Frag} {F : Hp} (lo : Int) (n : Nat) : JW K F (Itr lo n) (irg lo n) := by
  refine ⟨fun _ => True, YFn fun i => .int (lo + i), by rw [irg_len]; exact walk_range, fun _ _ _ _ => trivial, fun i F' H' x H'' hi e1 e2 y => ?_⟩
  obtain ⟨rfl, rfl⟩ := y
  rw [irg_len] at hi
  exact ⟨F', _, irg_get n lo i hi, .refl e2, .int _⟩
def dRng1 (t : TD) : TDs := fun ρ Q E => t ρ (asI fun j => j ≤ 16777216 ∧ -16777216 ≤ j ∧ Q (irg 0 j.toNat)) E
theorem ri_range1 {p : Pos} (h : RP X W a t) (hm : X.mg "range" = none) (hg : Gl X "range" := by rfl) (hs : starEach [a] X.env = (false, eval a X.env) :: starEach [] X.env := by rfl) : RI X W tg (.Call (.Name "range" p) [a] [] pos) (dRng1 t) := by
  obtain ⟨te, h1, h2⟩ := h.run
  refine ⟨_, pi_range1 hg hm (pa_cons h1 pa_nil hs) hs, fun ρ σ F H Qd E R rl xp kk q => h2 ρ σ F H _ E _ rl xp (fun d v F1 H1 g1 r1 q1 => ?_) q⟩
  obtain ⟨j, rfl, z1, z2, q2⟩ := asI_inv q1
  cases r1.int
  exact ⟨j, rfl, by omega, by omega, kk _ _ F1 H1 g1 (jw_range 0 j.toNat) (by rw [irg_len, sizeLine_eq]; omega) q2⟩
def dRng2 (ta tb : TD) : TDs := fun ρ Q E => ta ρ (asI fun i => tb ρ (asI fun j => (j ≤ 16777216 ∧ -16777216 ≤ j ∧ i ≤ 16777216 ∧ -16777216 ≤ i ∧ j - i ≤ 16777216) ∧ Q (irg i (j - i).toNat)) E) E
theorem ri_range2 {p : Pos} (h : RP X W a ta) (h' : RP X W b tb) (hm : X.mg "range" = none) (hg : Gl X "range" := by rfl) (hs : starEach [a, b] X.env = [(false, eval a X.env), (false, eval b X.env)] := by rfl) (hs2 : starEach [b] X.env = [(false, eval b X.env)] := by rfl) :
    RI X W tg (.Call (.Name "range" p) [a, b] [] pos) (dRng2 ta tb) := by
  obtain ⟨te, h1, h2⟩ := h.run
  obtain ⟨te', h1', h2'⟩ := h'.run
  refine ⟨_, pi_range2 hg hm (pa_cons h1 (pa_cons h1' pa_nil hs2) (by rw [hs, hs2])) hs hs2, fun ρ σ F H Qd E R rl xp kk q => h2 ρ σ F H _ E _ rl xp (fun d v F1 H1 g1 r1 q1 => ?_) q⟩
  obtain ⟨i, rfl, q2⟩ := asI_inv q1
  cases r1.int
  refine h2' ρ σ F1 H1 _ E _ (rl.go g1) (xp.go g1) (fun d' v' F2 H2 g2 r2 q3 => ?_) q2
  obtain ⟨j, rfl, z, q4⟩ := asI_inv q3
  cases r2.int
  exact ⟨i, j, rfl, by omega, kk _ _ F2 H2 (g1.trans g2) (jw_range i (j - i).toNat) (by rw [irg_len, sizeLine_eq]; omega) q4⟩
/-- pairs -/
def pairs : List D → List D → List D
  | x :: xs, y :: ys => .tup [x, y] :: pairs xs ys
  | _, _ => []
theorem pairs_len : ∀ xs ys : List D, (pairs xs ys).length = min xs.length ys.length
  | [], _ => by simp [pairs]
  | _ :: _, [] => by simp [pairs]
  | x :: xs, y :: ys => by simp only [pairs, List.length_cons, pairs_len xs ys]; omega
theorem pairs_get : ∀ {xs ys : List D} {i : Nat} {x y : D}, xs[i]? = some x → ys[i]? = some y → (pairs xs ys)[i]? = some (.tup [x, y])
  | [], _, _, _, _, h, _ => by simp at h
  | _ :: _, [], _, _, _, _, h => by simp at h
  | _ :: _, _ :: _, 0, _, _, h, h' => by simp at h h'; subst h; subst h'; rfl
  | _ :: xs, _ :: ys, i + 1, _, _, h, h' => by
    simp only [pairs, List.getElem?_cons_succ]
    exact pairs_get (by simpa using h) (by simpa using h')
theorem jw_pair {K : PySem.W.Frag} {F : Hp} {J : It} {ds es : List D} {G : Hp → Prop} {xs ys : Nat → Option V} (w : Walk J (min ds.length es.length) G (YPair xs ys)) (hg : ∀ F' H', Same F F' → Same F' H' → G H')
    (r : ∀ i x, xs i = some x → i < ds.length → ∃ d, ds[i]? = some d ∧ Rep K F d x) (r' : ∀ i x, ys i = some x → i < es.length → ∃ d, es[i]? = some d ∧ Rep K F d x) : JW K F J (pairs ds es) := by
  refine ⟨G, YPair xs ys, by rw [pairs_len]; exact w, hg, fun i F' H' v H'' hi e1 e2 y => ?_⟩
  rw [pairs_len] at hi
  obtain ⟨T, x, u, rfl, nT, rfl, hx, hy⟩ := y
  obtain ⟨d, h1, h2⟩ := r i x hx (by omega)
  obtain ⟨d', h1', h2'⟩ := r' i u hy (by omega)
  obtain ⟨g, rr⟩ := Go.tup (K := K) (ds := [d, d']) e2 (.cons (h2.mono e1) (.cons (h2'.mono e1) .nil)) (by show 2 ≤ sizeLine; rw [sizeLine_eq]; decide) nT
  exact ⟨_, _, pairs_get h1 h1', g, rr⟩
def dZip (ta tb : TD) : TDs := fun ρ Q E => ta ρ (asSeq fun xs => tb ρ (asSeq fun ys => Q (pairs xs ys)) E) E
theorem rep_seq {K : PySem.W.Frag} {F H : Hp} {d : D} {v : V} {ds : List D} (r : Rep K F d v) (e : d = .lst ds ∨ d = .frl ds ∨ d = .tup ds) : ∃ (k : Bool) (a : Addr) (vs : List V), v = .ref a ∧ SqA k K F a vs ∧ vs.length ≤ sizeLine ∧ Reps K F ds vs := by
  rcases e with rfl | rfl | rfl
  · cases r with
    | lst s l r => exact ⟨true, _, _, rfl, SqL.of s, l, r⟩
  · cases r with
    | frl s l r => exact ⟨true, _, _, rfl, s, l, r⟩
  · cases r with
    | tup s l r => exact ⟨false, _, _, rfl, SqT.of s, l, r⟩
theorem same_seqA {k : Bool} {K : PySem.W.Frag} {H H' : Hp} {a : Addr} {xs : List V} (e : Same H H') (h : SqA k K H a xs) : SqA k K H' a xs := by
  cases k
  · exact same_seqT e h
  · exact same_seqL e h
theorem ri_zip {p tpos : Pos} {elts : List Expr} {kk : Nat} (h : RE X W a ta) (h' : RE X W b tb) (hm : X.mg "zip" = none) (hg : Gl X "zip" := by rfl) (hs : starEach [a, b] X.env = (false, eval a X.env) :: starEach [b] X.env := by rfl) (hs2 : starEach [b] X.env = (false, eval b X.env) :: starEach [] X.env := by rfl)
    (hpl : (backTo pos (starEach [b] X.env)).any (·.1) = false := by rfl) : RI X W (.Tuple elts kk tpos) (.Call (.Name "zip" p) [a, b] [] pos) (dZip ta tb) := by
  obtain ⟨te, h1, h2⟩ := h.run
  obtain ⟨te', h1', h2'⟩ := h'.run
  refine ⟨_, pi_zipM hg hm (pa_cons h1 (pa_cons h1' pa_nil hs2) hs) hs hpl, fun ρ σ F H Qd E R rl xp kk q => h2 ρ σ F H _ E _ rl xp (fun d v F1 H1 g1 r1 q1 => ?_) q⟩
  obtain ⟨ds, hd, q2⟩ := asSeq_inv q1
  refine h2' ρ σ F1 H1 _ E _ (rl.go g1) (xp.go g1) (fun d' v' F2 H2 g2 r2 q3 => ?_) q2
  obtain ⟨es, he, q4⟩ := asSeq_inv q3
  obtain ⟨k1, a1, vs, rfl, s1, l1, rs1⟩ := rep_seq (H := H2) (r1.mono g2.ff) hd
  obtain ⟨k2, a2, ws, rfl, s2, l2, rs2⟩ := rep_seq (H := H2) r2 he
  have w : Walk (ItzA k1 k2 X.K a1 a2) (min ds.length es.length) (fun H => SqA k1 X.K H a1 vs ∧ SqA k2 X.K H a2 ws) (YPair (fun i => vs[i]?) (fun i => ws[i]?)) := by
    rw [← rs1.length, ← rs2.length]; exact walk_zipM
  have jw : JW X.K F2 (ItzA k1 k2 X.K a1 a2) (pairs ds es) :=
    jw_pair w (fun F' H' e1 e2 => ⟨same_seqA e2 (same_seqA e1 s1), same_seqA e2 (same_seqA e1 s2)⟩) (fun i x hx _ => rs1.get' hx) fun i x hx _ => rs2.get' hx
  refine ⟨k1, k2, a1, a2, vs, ws, rfl, same_seqA g2.fh s1, same_seqA g2.fh s2, kk _ _ F2 H2 (g1.trans g2) jw ?_ q4⟩
  rw [pairs_len, ← rs1.length]
  exact Nat.le_trans (Nat.min_le_left _ _) l1
/-! ### targets -/
abbrev DG := D → Env' → (Env' → Prop) → Prop
/-- a target that stores at the slots js alone -/
structure RG (X : Cx) (tg : Expr) (js : List Nat) (g : DG) : Prop where
  run : ∃ tg', PG X tg tg' ∧ ∀ (ρ : Env') (σ : L2.St) (F H : Hp) (d : D) (v : V) (Qd : Env' → Prop) (Q : L2.St → Hp → Prop), ρ.length = σ.length → Same F H → Rep X.K F d v →
    (∀ ρ' σ' (us : List (Nat × D × V)), ρ' = us.foldl (fun r u => r.set u.1 (.sh u.2.1)) ρ → σ' = us.foldl (fun s u => s.set u.1 (some u.2.2)) σ → (∀ u ∈ us, u.1 ∈ js ∧ Rep X.K F u.2.1 u.2.2) → Qd ρ' → Q σ' H) → g d ρ Qd → tg' v σ H Q
structure RGs (X : Cx) (tgs : List Expr) (js : List Nat) (g : List D → Env' → (Env' → Prop) → Prop) : Prop where
  run : ∃ tg', PGs X tgs tg' ∧ ∀ (ρ : Env') (σ : L2.St) (F H : Hp) (ds : List D) (vs : List V) (Qd : Env' → Prop) (Q : L2.St → Hp → Prop), ρ.length = σ.length → Same F H → Reps X.K F ds vs →
    (∀ ρ' σ' (us : List (Nat × D × V)), ρ' = us.foldl (fun r u => r.set u.1 (.sh u.2.1)) ρ → σ' = us.foldl (fun s u => s.set u.1 (some u.2.2)) σ → (∀ u ∈ us, u.1 ∈ js ∧ Rep X.K F u.2.1 u.2.2) → Qd ρ' → Q σ' H) → g ds ρ Qd → tg' vs σ H Q
def gNm (i : Nat) : DG := fun d ρ Q => Q (ρ.set i (.sh d))
theorem rg_name (i : Nat) {x : Str} (hN : X.N.Nodup) (hi : X.N[i]? = some x := by rfl) (hx : Loc X.env.scope x := by first | exact Or.inl rfl | exact Or.inr rfl) (hf : X.fn x = true ∨ X.env.scope.names.lookup x = some .local := by first | exact .inl rfl | exact .inr rfl) : RG X (.Name x pos) [i] (gNm i) := by
  refine ⟨_, pg_name hN hi hx hf, fun ρ σ F H d v Qd Q hl e r kk q => ?_⟩
  exact kk _ _ [(i, d, v)] rfl rfl (fun u hu => by rw [List.mem_singleton.mp hu]; exact ⟨List.mem_singleton.mpr rfl, r⟩) q
def gNl : List D → Env' → (Env' → Prop) → Prop := fun ds ρ Q => match ds with
  | [] => Q ρ
  | _ => False
def gCs (g : DG) (u : List D → Env' → (Env' → Prop) → Prop) : List D → Env' → (Env' → Prop) → Prop := fun ds ρ Q => match ds with
  | d :: ds => g d ρ fun ρ' => u ds ρ' Q
  | _ => False
theorem rgs_nil : RGs X [] [] gNl := by
  refine ⟨_, pgs_nil, fun ρ σ F H ds vs Qd Q hl e r kk q => ?_⟩
  cases ds with
  | cons d ds => exact False.elim q
  | nil => cases r; exact ⟨rfl, kk ρ σ [] rfl rfl (fun u hu => by cases hu) q⟩
theorem fold_len {α β : Type} (f : β → Nat × α) : ∀ (us : List β) (l : List α), (us.foldl (fun r u => r.set (f u).1 (f u).2) l).length = l.length
  | [], _ => rfl
  | u :: us, l => by rw [List.foldl_cons, fold_len f us, List.length_set]
theorem rgs_cons {js js' : List Nat} {g : DG} {u : List D → Env' → (Env' → Prop) → Prop} (h : RG X e js g) (hr : RGs X es js' u) (hs : (assignEach (e :: es) X.env).map (·.2) = assign e X.env :: (assignEach es X.env).map (·.2) := by rfl) : RGs X (e :: es) (js ++ js') (gCs g u) := by
  obtain ⟨g1, h1, h2⟩ := h.run
  obtain ⟨g2, a1, a2⟩ := hr.run
  refine ⟨_, pgs_cons h1 a1 hs, fun ρ σ F H ds vs Qd Q hl e r kk q => ?_⟩
  cases ds with
  | nil => exact False.elim q
  | cons d ds =>
    cases r with
    | cons r rr =>
      refine ⟨_, _, rfl, h2 ρ σ F H d _ _ _ hl e r (fun ρ' σ' us e1 e2 hu q1 => ?_) q⟩
      have hl' : ρ'.length = σ'.length := by
        rw [e1, e2, fold_len (fun u : Nat × D × V => (u.1, Sl.sh u.2.1)), fold_len (fun u : Nat × D × V => (u.1, some u.2.2))]; exact hl
      refine a2 ρ' σ' F H ds _ _ _ hl' e rr (fun ρ2 σ2 us2 e3 e4 hu2 q2 => ?_) q1
      refine kk ρ2 σ2 (us ++ us2) (by rw [List.foldl_append, ← e1]; exact e3) (by rw [List.foldl_append, ← e2]; exact e4) (fun u hu' => ?_) q2
      rcases List.mem_append.mp hu' with z | z
      · exact ⟨List.mem_append_left _ (hu u z).1, (hu u z).2⟩
      · exact ⟨List.mem_append_right _ (hu2 u z).1, (hu2 u z).2⟩
def gTp (n : Nat) (u : List D → Env' → (Env' → Prop) → Prop) : DG := fun d ρ Q => match d with
  | .tup ds => ds.length = n ∧ u ds ρ Q
  | _ => False
theorem rg_tup {k n : Nat} {js : List Nat} {u : List D → Env' → (Env' → Prop) → Prop} (h : RGs X es js u) (hc : X.calm = true := by rfl) (hn : (assignEach es X.env).length = n := by rfl) (hst : (assignEach es X.env).findIdx? (·.1) = none := by rfl) : RG X (.Tuple es k pos) js (gTp n u) := by
  obtain ⟨g1, h1, h2⟩ := h.run
  refine ⟨_, pg_tup hc h1 hn hst, fun ρ σ F H d v Qd Q hl e r kk q => ?_⟩
  cases d <;> first | exact False.elim q | skip
  cases r with
  | tup s l r => exact ⟨_, _, rfl, SqT.of (e _ _ s), by rw [r.length]; exact q.1, h2 ρ σ F H _ _ _ _ hl e r kk q.2⟩
end
end Dl

/-! The D-layer, part 7: comprehensions. -/
namespace Dl
open PySem PySem.Spec
open PyProof.Rows L2
def wipeD (ρ : Env') : List Nat → Env'
  | [] => ρ
  | v :: vs => (wipeD ρ vs).set v .no
theorem wipeD_len (ρ : Env') : ∀ vs : List Nat, (wipeD ρ vs).length = ρ.length
  | [] => rfl
  | v :: vs => by unfold wipeD; rw [List.length_set, wipeD_len ρ vs]
theorem wipeD_get {ρ : Env'} {i : Nat} {x : Sl} : ∀ {vs : List Nat}, (wipeD ρ vs)[i]? = some x → x ≠ .no → i ∉ vs ∧ ρ[i]? = some x
  | [], h, _ => ⟨by simp, h⟩
  | v :: vs, h, ne => by
    unfold wipeD at h
    by_cases hi : v = i
    · subst hi
      by_cases hl : v < (wipeD ρ vs).length
      · rw [List.getElem?_set_self hl] at h; cases h; exact absurd rfl ne
      · rw [List.getElem?_eq_none (by simpa using hl)] at h; cases h
    · rw [List.getElem?_set_ne hi] at h
      obtain ⟨h1, h2⟩ := wipeD_get h ne
      exact ⟨by simp only [List.mem_cons, not_or]; exact ⟨fun e => hi e.symm, h1⟩, h2⟩
theorem wipe_at {σ : L2.St} {i : Nat} : ∀ {vs : List Nat}, (L2.wipe σ vs)[i]? = if i ∈ vs ∧ i < σ.length then some none else σ[i]?
  | [] => by simp [L2.wipe]
  | v :: vs => by
    unfold L2.wipe
    by_cases hi : v = i
    · subst hi
      by_cases hl : v < σ.length
      · rw [List.getElem?_set_self (by rw [L2.wipe_length]; exact hl), if_pos ⟨by simp, hl⟩]
      · rw [if_neg (fun h => hl h.2), List.getElem?_eq_none (by rw [List.length_set, L2.wipe_length]; omega), List.getElem?_eq_none (by omega)]
    · rw [List.getElem?_set_ne hi, wipe_at (vs := vs)]
      have : (i ∈ v :: vs) = (i ∈ vs) := by
        rw [List.mem_cons]
        exact propext ⟨fun h => h.resolve_left (fun e => hi e.symm), .inr⟩
      simp only [this]
theorem wipe_set {σ : L2.St} {vs : List Nat} {i : Nat} {x : Option V} (h : i ∈ vs) : L2.wipe (σ.set i x) vs = L2.wipe σ vs := by
  refine List.ext_getElem? fun j => ?_
  rw [wipe_at, wipe_at, List.length_set]
  by_cases hj : i = j
  · subst hj
    by_cases hl : i < σ.length
    · rw [if_pos ⟨h, hl⟩, if_pos ⟨h, hl⟩]
    · rw [if_neg (fun z => hl z.2), if_neg (fun z => hl z.2), List.getElem?_eq_none (by rw [List.length_set]; omega), List.getElem?_eq_none (by omega)]
  · rw [List.getElem?_set_ne hj]
theorem wipe_wipe {σ : L2.St} {vs : List Nat} : L2.wipe (L2.wipe σ vs) vs = L2.wipe σ vs := by
  refine List.ext_getElem? fun j => ?_
  rw [wipe_at, wipe_at, L2.wipe_length]
  by_cases h : j ∈ vs ∧ j < σ.length
  · rw [if_pos h, if_pos h]
  · rw [if_neg h, if_neg h]
theorem wipe_fold {vs : List Nat} : ∀ (us : List (Nat × D × V)) (σ : L2.St), (∀ u ∈ us, u.1 ∈ vs) → L2.wipe (us.foldl (fun s u => s.set u.1 (some u.2.2)) σ) vs = L2.wipe σ vs
  | [], _, _ => rfl
  | u :: us, σ, h => by
    rw [List.foldl_cons, wipe_fold us _ fun u hu => h u (List.mem_cons_of_mem _ hu), wipe_set (h u List.mem_cons_self)]
theorem Rl.wipe {K : PySem.W.Frag} {ρ : Env'} {σ : L2.St} {F H : Hp} (r : Rl K ρ σ F H) (vs : List Nat) : Rl K (wipeD ρ vs) (L2.wipe σ vs) F H := by
  have key : ∀ {i : Nat} {x : Sl}, (wipeD ρ vs)[i]? = some x → x ≠ .no → ρ[i]? = some x ∧ (L2.wipe σ vs)[i]? = σ[i]? := fun {i x} h ne => by
    obtain ⟨h1, h2⟩ := wipeD_get h ne
    exact ⟨h2, by rw [wipe_at, if_neg fun z => h1 z.1]⟩
  refine ⟨by rw [wipeD_len, L2.wipe_length]; exact r.len, r.fh, fun i d e => ?_, fun i ds e => ?_, fun i C fs e => ?_, fun i kvs e => ?_, fun i j s t v e1 o1 e2 o2 e3 e4 => ?_⟩
  · obtain ⟨h1, h2⟩ := key e (fun z => nomatch z)
    rw [h2]; exact r.sh i d h1
  · obtain ⟨h1, h2⟩ := key e (fun z => nomatch z)
    rw [h2]; exact r.ow i ds h1
  · obtain ⟨h1, h2⟩ := key e (fun z => nomatch z)
    rw [h2]; exact r.oi i C fs h1
  · obtain ⟨h1, h2⟩ := key e (fun z => nomatch z)
    rw [h2]; exact r.od i kvs h1
  · obtain ⟨h1, h2⟩ := key e1 (fun z => by subst z; cases o1)
    obtain ⟨h1', h2'⟩ := key e2 (fun z => by subst z; cases o2)
    rw [h2] at e3; rw [h2'] at e4
    exact r.inj i j s t v h1 o1 h1' o2 e3 e4
theorem Rl.set {K : PySem.W.Frag} {ρ : Env'} {σ : L2.St} {F H : Hp} (r : Rl K ρ σ F H) (i : Nat) {d : D} {v : V} (rd : Rep K F d v) : Rl K (ρ.set i (.sh d)) (σ.set i (some v)) F H := by
  have key : ∀ {j : Nat} {x : Sl}, (ρ.set i (.sh d))[j]? = some x → x.own = true → ρ[j]? = some x ∧ (σ.set i (some v))[j]? = σ[j]? := fun {j x} h o => by
    by_cases hj : i = j
    · subst hj
      by_cases hl : i < ρ.length
      · rw [List.getElem?_set_self hl] at h; cases h; cases o
      · rw [List.getElem?_eq_none (by rw [List.length_set]; omega)] at h; cases h
    · rw [List.getElem?_set_ne hj] at h ⊢
      exact ⟨h, rfl⟩
  refine ⟨by rw [List.length_set, List.length_set]; exact r.len, r.fh, fun j d' e => ?_, fun j ds e => ?_, fun j C fs e => ?_, fun j kvs e => ?_, fun j k s t w e1 o1 e2 o2 e3 e4 => ?_⟩
  · by_cases hj : i = j
    · subst hj
      have hl : i < ρ.length := by
        have z := (List.getElem?_eq_some_iff.mp e).1
        rw [List.length_set] at z; exact z
      rw [List.getElem?_set_self hl] at e
      cases e
      exact ⟨v, List.getElem?_set_self (by rw [← r.len]; exact hl), rd⟩
    · rw [List.getElem?_set_ne hj] at e ⊢
      exact r.sh j d' e
  · obtain ⟨h1, h2⟩ := key e rfl
    rw [h2]; exact r.ow j ds h1
  · obtain ⟨h1, h2⟩ := key e rfl
    rw [h2]; exact r.oi j C fs h1
  · obtain ⟨h1, h2⟩ := key e rfl
    rw [h2]; exact r.od j kvs h1
  · obtain ⟨h1, h2⟩ := key e1 o1
    obtain ⟨h1', h2'⟩ := key e2 o2
    rw [h2] at e3; rw [h2'] at e4
    exact r.inj j k s t w h1 o1 h1' o2 e3 e4
theorem Rl.sets {K : PySem.W.Frag} {F H : Hp} : ∀ (us : List (Nat × D × V)) {ρ : Env'} {σ : L2.St}, Rl K ρ σ F H → (∀ u ∈ us, Rep K F u.2.1 u.2.2) → Rl K (us.foldl (fun r u => r.set u.1 (.sh u.2.1)) ρ) (us.foldl (fun s u => s.set u.1 (some u.2.2)) σ) F H
  | [], _, _, r, _ => r
  | u :: us, _, _, r, h => Rl.sets us (r.set u.1 (h u List.mem_cons_self)) fun v hv => h v (List.mem_cons_of_mem _ hv)
/-! ### [elt for tg in iter if ..] -/
abbrev W0 : WX := fun _ _ _ _ => False
theorem xp0 {K : PySem.W.Frag} {σ : L2.St} {F H : Hp} : XP K W0 σ F H fun _ => False := fun _ _ _ _ _ _ _ h => h
def compR (g : DG) (tt : TDb) (te : TD) (ρ : Env') (Q : List D → Prop) : List D → List D → Prop
  | [], acc => Q acc
  | d :: ds, acc => g d ρ fun ρ2 => tt ρ2 (fun b => ifP b (te ρ2 (fun y => compR g tt te ρ Q ds (acc ++ [y])) (fun _ => False)) (compR g tt te ρ Q ds acc)) fun _ => False
/-- the same, shut -/
structure compL (g : DG) (tt : TDb) (te : TD) (ρ : Env') (Q : List D → Prop) (ds acc : List D) : Prop where
  out : compR g tt te ρ Q ds acc
def dYes : TDb := fun _ Q _ => Q true
structure RTs (X : Cx) (W : WX) (ifs : List Expr) (t : TDb) : Prop where
  run : ∃ tt, PTs X ifs tt ∧ ∀ (ρ : Env') (σ : L2.St) (F H : Hp) (Qd : Bool → Prop) (E : EQ) (Q : Bool → Hp → Prop), Rl X.K ρ σ F H → XP X.K W σ F H E →
    (∀ b F' H', Go F H F' H' → Qd b → Q b H') → t ρ Qd E → tt σ H Q
theorem rts_nil {X : Cx} {W : WX} : RTs X W [] dYes := ⟨_, pts_nil, fun ρ σ F H Qd E Q rl xp kk q => kk _ F H (.refl rl.fh) q⟩
/-- a reading of values that is worth a reading of trees -/
def liftE (K : PySem.W.Frag) (W : WX) (t : TD) : TE := fun σ H Q => ∃ (ρ : Env') (F : Hp) (Qd E : EQ), Rl K ρ σ F H ∧ XP K W σ F H E ∧ (∀ d v F' H', Go F H F' H' → Rep K F' d v → Qd d → Q v H') ∧ t ρ Qd E
theorem RE.lift {X : Cx} {W : WX} {e : Expr} {t : TD} (h : RE X W e t) : PE X e (liftE X.K W t) := by
  obtain ⟨te, h1, h2⟩ := h.run
  refine ⟨fun pins s σ H Q I ⟨ρ, F, Qd, E, rl, xp, kk, q⟩ => h1.run pins s σ H Q I (h2 ρ σ F H Qd E Q rl xp kk q)⟩
def liftT (K : PySem.W.Frag) (W : WX) (t : TDb) : TT := fun σ H Q => ∃ (ρ : Env') (F : Hp) (Qd : Bool → Prop) (E : EQ), Rl K ρ σ F H ∧ XP K W σ F H E ∧ (∀ d F' H', Go F H F' H' → Qd d → Q d H') ∧ t ρ Qd E
theorem RTs.lift {X : Cx} {W : WX} {e : List Expr} {t : TDb} (h : RTs X W e t) : PTs X e (liftT X.K W t) := by
  obtain ⟨te, h1, h2⟩ := h.run
  refine ⟨fun pins s σ H Q I ⟨ρ, F, Qd, E, rl, xp, kk, q⟩ => h1.run pins s σ H Q I (h2 ρ σ F H Qd E Q rl xp kk q)⟩
def liftG (K : PySem.W.Frag) (js : List Nat) (g : DG) : TG := fun v σ H Q => ∃ (ρ : Env') (F : Hp) (d : D) (Qd : Env' → Prop), ρ.length = σ.length ∧ Same F H ∧ Rep K F d v ∧
    (∀ ρ' σ' (us : List (Nat × D × V)), ρ' = us.foldl (fun r u => r.set u.1 (.sh u.2.1)) ρ → σ' = us.foldl (fun s u => s.set u.1 (some u.2.2)) σ → (∀ u ∈ us, u.1 ∈ js ∧ Rep K F u.2.1 u.2.2) → Qd ρ' → Q σ' H) ∧ g d ρ Qd
theorem RG.lift {X : Cx} {e : Expr} {js : List Nat} {g : DG} (h : RG X e js g) : PG X e (liftG X.K js g) := by
  obtain ⟨te, h1, h2⟩ := h.run
  refine ⟨fun pins s σ H v u Q I r ⟨ρ, F, d, Qd, hl, e, rd, kk, q⟩ => h1.run pins s σ H v u Q I r (h2 ρ σ F H d v Qd Q hl e rd kk q)⟩
def dLc (ti : TDs) (g : DG) (tt : TDb) (te : TD) (vs : List Nat) : TD := fun ρ Q E => ti ρ (fun ds => compL g tt te (wipeD ρ vs) (fun r => Q (.lst r)) ds []) E
/-- a list that is new and nobody else's -/
structure RN (X : Cx) (W : WX) (e : Expr) (t : TDs) : Prop where
  run : ∃ te, PE X e te ∧ ∀ (ρ : Env') (σ : L2.St) (F H : Hp) (Qd : List D → Prop) (E : EQ) (Q : VK), Rl X.K ρ σ F H → XP X.K W σ F H E →
    (∀ ds p vs F' H', Go F H F' H' → H p = none → H' p = some (.lst vs) → F' p = none → vs.length ≤ sizeLine → Reps X.K F' ds vs → Qd ds → Q (.ref p) H') → t ρ Qd E → te σ H Q
def dFz (t : TDs) : TD := fun ρ Q E => t ρ (fun ds => Q (.lst ds)) E
theorem Go.freeze {F H F' H' : Hp} {p : Addr} {vs : List V} (g : Go F H F' H') (np : H p = none) (hp : H' p = some (.lst vs)) (fp : F' p = none) : Go F H (upd F' p (.lst vs)) H' := by
  refine ⟨g.ff.trans (same_upd fp), g.hh, fun b u e => ?_, fun q h1 h2 => ?_⟩
  · by_cases z : b = p
    · subst z; rw [upd_same] at e; cases e; exact hp
    · rw [upd_ne z] at e; exact g.fh _ _ e
  · rw [upd_ne (fun z => by rw [z] at h2; exact h2 np)]; exact g.nn q h1 h2
theorem RN.e {X : Cx} {W : WX} {e : Expr} {t : TDs} (h : RN X W e t) : RE X W e (dFz t) := by
  obtain ⟨te, h1, h2⟩ := h.run
  refine ⟨te, h1, fun ρ σ F H Qd E Q rl xp kk q => h2 ρ σ F H _ E _ rl xp (fun ds p vs F' H' g np hp fp z r q1 => ?_) q⟩
  exact kk _ _ _ H' (g.freeze np hp fp) (.lst upd_same z (r.mono (same_upd fp))) q1
section
variable {X : Cx} {W : WX}
theorem go_acc {F1 H1 F H : Hp} {p : Addr} {vs ws : List V} (g : Go F1 H1 F H) (n1 : H1 p = none) (hp : H p = some (.lst vs)) (fp : F p = none) : Go F1 H1 F (upd H p (.lst ws)) := by
  refine ⟨g.ff, fun b u e => ?_, fun b u e => ?_, g.nn⟩
  · rw [upd_ne (ne_of_none e n1)]; exact g.hh _ _ e
  · rw [upd_ne (ne_of_none e fp)]; exact g.fh _ _ e
def dLcN (ti : TDs) (g : DG) (tt : TDb) (te : TD) (vs : List Nat) : TDs := fun ρ Q E => ti ρ (fun ds => compL g tt te (wipeD ρ vs) Q ds []) E
theorem lc_run {K : PySem.W.Frag} {wi : TI} {ti : TDs} {g : DG} {js : List Nat} {tt : TDb} {te : TD} {vs : List Nat} (hjs : ∀ i ∈ js, i ∈ vs)
    (hi : ∀ (ρ : Env') (σ : L2.St) (F H : Hp) (Qd : List D → Prop) (E : EQ) (R : It → Hp → Prop), Rl K ρ σ F H → XP K W σ F H E → (∀ ds J F' H', Go F H F' H' → JW K F' J ds → ds.length ≤ sizeLine → Qd ds → R J H') → ti ρ Qd E → wi σ H R)
    {ρ : Env'} {σ : L2.St} {F H : Hp} {Qd : List D → Prop} {E : EQ} {Q : VK} (rl : Rl K ρ σ F H) (xp : XP K W σ F H E)
    (kk : ∀ ds p vs F' H', Go F H F' H' → H p = none → H' p = some (.lst vs) → F' p = none → vs.length ≤ sizeLine → Reps K F' ds vs → Qd ds → Q (.ref p) H') (q : dLcN ti g tt te vs ρ Qd E) :
    tLc wi (liftG K js g) (liftT K W0 tt) (liftE K W0 te) vs σ H Q := by
  refine hi ρ σ F H _ E _ rl xp (fun ds J F1 H1 g1 jw zl q1 => ?_) q
  intro P nP
  obtain ⟨G, Y, w, hG, hY⟩ := jw.go
  have fP : F1 P = none := g1.fh.free nP
  let Inv : Nat → Hp → Prop := fun i H' => ∃ (F' : Hp) (acc : List D) (av : List V), Go F1 H1 F' H' ∧ H' P = some (.lst av) ∧ F' P = none ∧ Reps K F' acc av ∧ av.length ≤ i ∧ compR g tt te (wipeD ρ vs) Qd (ds.drop i) acc
  refine lc_it w Inv ⟨F1, [], [], ⟨Same.refl _, same_upd nP, g1.fh.trans (same_upd nP), fun p h _ => h⟩, upd_same, fP, .nil, Nat.zero_le _, by rw [List.drop_zero]; exact q1.out⟩ ?_ ?_ ?_
  · rintro i H' _ ⟨F', acc, av, g2, _⟩
    exact hG F' H' g2.ff g2.fh
  · rintro i x H' H'' hlt ⟨F', acc, av, g2, hP, fP', ra, la, cq⟩ y
    obtain ⟨F2, d, hd, g3, rd⟩ := hY i F' H' x H'' hlt g2.ff g2.fh y
    rw [List.drop_eq_getElem_cons hlt] at cq
    have hd' : ds[i] = d := by
      rw [List.getElem?_eq_getElem hlt] at hd
      exact Option.some.inj hd
    rw [hd'] at cq
    have rw0 : Rl K (wipeD ρ vs) (L2.wipe σ vs) F2 H'' := (((rl.wipe vs).go g1).go g2).go g3
    have hP2 : H'' P = some (.lst av) := g3.hh _ _ hP
    have fP2 : F2 P = none := g3.nn P fP' (by rw [hP]; exact fun z => nomatch z)
    have g4 := g2.trans g3
    refine ⟨wipeD ρ vs, F2, d, _, rw0.len, g3.fh, rd, fun ρ' σ' us e1 e2 hu q2 => ?_, cq⟩
    have rl2 : Rl K ρ' σ' F2 H'' := by rw [e1, e2]; exact rw0.sets us fun u hu' => (hu u hu').2
    refine ⟨by rw [e2, wipe_fold us _ fun u hu' => hjs _ (hu u hu').1, wipe_wipe], ρ', F2, _, _, rl2, xp0, fun b F3 H3 g5 q3 => ?_, q2⟩
    have g6 := g4.trans g5
    have hP3 : H3 P = some (.lst av) := g5.hh _ _ hP2
    have fP3 : F3 P = none := g5.nn P fP2 (by rw [hP2]; exact fun z => nomatch z)
    cases b with
    | false =>
      rw [ifP_f] at q3
      refine iteF ?_
      exact ⟨F3, acc, av, g6, hP3, fP3, (ra.mono g3.ff).mono g5.ff, Nat.le_succ_of_le la, q3⟩
    | true =>
      rw [ifP_t] at q3
      refine iteT ?_
      refine ⟨ρ', F3, _, _, rl2.go g5, xp0, fun yd yv F4 H4 g7 ry q4 => ?_, q3⟩
      have hP4 : H4 P = some (.lst av) := g7.hh _ _ hP3
      have fP4 : F4 P = none := g7.nn P fP3 (by rw [hP3]; exact fun z => nomatch z)
      refine ⟨av, hP4, by omega, F4, acc ++ [yd], av ++ [yv], go_acc (g6.trans g7) nP hP4 fP4, upd_same, fP4, (((ra.mono g3.ff).mono g5.ff).mono g7.ff).append (.cons ry .nil), by rw [List.length_append, List.length_singleton]; omega, q4⟩
  · rintro H' ⟨F', acc, av, g2, hP, fP', ra, la, cq⟩
    rw [List.drop_length] at cq
    exact kk acc P av F' H' (g1.trans g2) (g1.hh.free nP) hP fP' (by omega) ra cq
theorem rn_lc {elt tg iter : Expr} {ifs : List Expr} {scope : Scope} {own : List (Str × Nat)} {pos : Pos} {ti : TDs} {g : DG} {js : List Nat} {tt : TDb} {te : TD} (hN : X.N.Nodup) (hi : RI X W tg iter ti) (ok : BlkOk X.N X.env.scope scope own)
    (hg : ∀ (s : Shared) (H : Hp) (C : Addr) (cl : List (Str × Addr)) (fp : List Addr), RG (X.blk s H scope (compEnvC scope cl C X.env) fp) tg js g)
    (ht : ∀ (s : Shared) (H : Hp) (C : Addr) (cl : List (Str × Addr)) (fp : List Addr), RTs (X.blk s H scope (compEnvC scope cl C X.env) fp) W0 ifs tt)
    (he : ∀ (s : Shared) (H : Hp) (C : Addr) (cl : List (Str × Addr)) (fp : List Addr), RE (X.blk s H scope (compEnvC scope cl C X.env) fp) W0 elt te)
    {vs : List Nat} (hv : own.map (·.2) = vs := by rfl) (hjs : ∀ i ∈ js, i ∈ vs := by decide) (hc : X.calm = true := by rfl) (hs : ∀ x, foldedSetIterable iter X.env x = pure x := by intro _; rfl) :
    RN X W (.ListComp elt [⟨tg, iter, ifs, 0⟩] scope pos) (dLcN ti g tt te vs) := by
  subst hv
  obtain ⟨wi, h1, h2⟩ := hi.run
  exact ⟨_, pe_lc hc hN h1 ok (fun s H C cl fp => (hg s H C cl fp).lift) (fun s H C cl fp => (ht s H C cl fp).lift) (fun s H C cl fp => (he s H C cl fp).lift) hs, fun ρ σ F H Qd E Q rl xp kk q => lc_run hjs h2 rl xp kk q⟩
/-! ### other new lists -/
theorem rn_lst {es : List Expr} {ts : TDs} {pos : Pos} (h : RA X W es ts) : RN X W (.List es pos) (fun ρ Q E => ts ρ (fun ds => few ds ∧ Q ds) E) := by
  obtain ⟨te, h1, h2⟩ := h.run
  refine ⟨_, pe_lst h1, fun ρ σ F H Qd E Q rl xp kk q => h2 ρ σ F H _ E _ rl xp (fun ds vs F1 H1 g1 r1 q1 => ⟨few_line r1 q1.1, fun p np => ?_⟩) q⟩
  have g := g1.trans (F2 := F1) (H2 := upd H1 p (.lst vs)) ⟨Same.refl _, same_upd np, g1.fh.trans (same_upd np), fun _ h _ => h⟩
  exact kk ds p vs F1 _ g (g1.hh.free np) upd_same (g1.fh.free np) (few_line r1 q1.1) r1 q1.2
theorem go_new {F H : Hp} {p : Addr} {o : HO} (e : Same F H) (np : H p = none) : Go F H F (upd H p o) := ⟨Same.refl _, same_upd np, e.trans (same_upd np), fun _ h _ => h⟩
end
end Dl

/-! The D-layer, part 8: statements, defs. -/
namespace Dl
open PySem PySem.Spec
open PyProof.Rows L2
/-- what is wanted behind a statement, by trees -/
structure DE where
  nx : Env' → Prop
  rt : EQ
  bk : Env' → Prop
  ct : Env' → Prop
  ex : Env' → EQ
  rt1 : List D → Prop
  rt2 : List D → List D → Prop
/-- a new list, known to nobody else -/
def OwL (K : PySem.W.Frag) (F H H0 : Hp) (ds : List D) (p : Addr) : Prop := H0 p = none ∧ F p = none ∧ ∃ vs, H p = some (.lst vs) ∧ vs.length ≤ sizeLine ∧ Reps K F ds vs
abbrev DS := DE → Env' → Prop
structure Cnt (K : PySem.W.Frag) (W : WX) (F0 H0 : Hp) (d : DE) (D : Ends) : Prop where
  nx : ∀ ρ σ F H, Ent K F0 H0 ρ σ F H → d.nx ρ → D.nx σ H
  rt : ∀ x v F H, Go F0 H0 F H → Rep K F x v → d.rt x → D.rt v H
  bk : ∀ ρ σ F H, Ent K F0 H0 ρ σ F H → d.bk ρ → D.bk σ H
  ct : ∀ ρ σ F H, Ent K F0 H0 ρ σ F H → d.ct ρ → D.ct σ H
  ex : ∀ ρ σ F H, Ent K F0 H0 ρ σ F H → XP K W σ F H (d.ex ρ)
  rt1 : ∀ ds p F H, Go F0 H0 F H → OwL K F H H0 ds p → d.rt1 ds → D.rt (.ref p) H
  rt2 : ∀ ds es t p q F H, Go F0 H0 F H → H t = some (.tup [.ref p, .ref q]) → p ≠ q → OwL K F H H0 ds p → OwL K F H H0 es q → d.rt2 ds es → D.rt (.ref t) H
/-- a later ground -/
theorem Ent.base {K : PySem.W.Frag} {F0 H0 F1 H1 : Hp} {ρ : Env'} {σ : L2.St} {F H : Hp} (g : Go F0 H0 F1 H1) (e : Ent K F1 H0 ρ σ F H) : Ent K F0 H0 ρ σ F H :=
  ⟨e.rl, ⟨g.ff.trans e.go.ff, e.go.hh, e.go.fh, fun p h1 h2 => e.go.nn p (g.nn p h1 h2) h2⟩, e.new⟩
theorem Ent.here {K : PySem.W.Frag} {F0 H0 : Hp} {ρ : Env'} {σ : L2.St} {F H : Hp} (e : Ent K F0 H0 ρ σ F H) : Ent K F H0 ρ σ F H :=
  ⟨e.rl, ⟨Same.refl _, e.go.hh, e.go.fh, fun _ h _ => h⟩, e.new⟩
theorem Cnt.base {K : PySem.W.Frag} {W : WX} {F0 H0 F1 H1 : Hp} {d : DE} {D : Ends} (g : Go F0 H0 F1 H1) (c : Cnt K W F0 H0 d D) : Cnt K W F1 H0 d D :=
  ⟨fun ρ σ F H e q => c.nx ρ σ F H (e.base g) q, fun x v F H g' r q => c.rt x v F H ⟨g.ff.trans g'.ff, g'.hh, g'.fh, fun p h1 h2 => g'.nn p (g.nn p h1 h2) h2⟩ r q, fun ρ σ F H e q => c.bk ρ σ F H (e.base g) q, fun ρ σ F H e q => c.ct ρ σ F H (e.base g) q, fun ρ σ F H e => c.ex ρ σ F H (e.base g), fun ds p F H g' => c.rt1 ds p F H ⟨g.ff.trans g'.ff, g'.hh, g'.fh, fun p h1 h2 => g'.nn p (g.nn p h1 h2) h2⟩, fun ds es t p q F H g' => c.rt2 ds es t p q F H ⟨g.ff.trans g'.ff, g'.hh, g'.fh, fun p h1 h2 => g'.nn p (g.nn p h1 h2) h2⟩⟩
structure RS (X : Cx) (W : WX) (st : Stmt) (t : DS) : Prop where
  run : ∃ ts, PS X st ts ∧ ∀ (F0 H0 : Hp) (ρ : Env') (σ : L2.St) (F H : Hp) (D : Ends) (d : DE), Ent X.K F0 H0 ρ σ F H → Cnt X.K W F0 H0 d D → t d ρ → ts D σ H
structure RSs (X : Cx) (W : WX) (st : List Stmt) (t : DS) : Prop where
  run : ∃ ts, PSs X st ts ∧ ∀ (F0 H0 : Hp) (ρ : Env') (σ : L2.St) (F H : Hp) (D : Ends) (d : DE), Ent X.K F0 H0 ρ σ F H → Cnt X.K W F0 H0 d D → t d ρ → ts D σ H
section
variable {X : Cx} {W : WX} {st : Stmt} {rest : List Stmt} {e a b c : Expr} {es : List Expr} {t ta tb tc : TD} {ts u v : DS} {pos : Pos}
/-! ### blocks -/
def dNext : DS := fun d ρ => d.nx ρ
def dSq (t u : DS) : DS := fun d ρ => t { d with nx := u d } ρ
theorem rss_nil : RSs X W [] dNext := ⟨_, pss_nil, fun F0 H0 ρ σ F H D d e c q => c.nx ρ σ F H e q⟩
theorem rss_cons (h : RS X W st u) (hr : RSs X W rest v) : RSs X W (st :: rest) (dSq u v) := by
  obtain ⟨t1, h1, h2⟩ := h.run
  obtain ⟨t2, a1, a2⟩ := hr.run
  refine ⟨_, pss_cons h1 a1, fun F0 H0 ρ σ F H D d e c q => h2 F0 H0 ρ σ F H _ { d with nx := v d } e ⟨fun ρ σ F H e q => a2 F0 H0 ρ σ F H D d e c q, c.rt, c.bk, c.ct, c.ex, c.rt1, c.rt2⟩ q⟩
theorem rss_one (h : RS X W st u) : RSs X W [st] u := by
  obtain ⟨t1, h1, h2⟩ := h.run
  exact ⟨_, pss_one h1, h2⟩
def dRet (t : TD) : DS := fun d ρ => t ρ d.rt (d.ex ρ)
theorem rs_ret (h : RE X W e t) : RS X W (.Return (some e) pos) (dRet t) := by
  obtain ⟨te, h1, h2⟩ := h.run
  exact ⟨_, ps_ret h1, fun F0 H0 ρ σ F H D d e c q => h2 ρ σ F H _ _ _ e.rl (c.ex ρ σ F H e) (fun x v F1 H1 g r q => c.rt x v F1 H1 (e.go.trans g) r q) q⟩
def dDrop (t : TD) : DS := fun d ρ => t ρ (fun _ => d.nx ρ) (d.ex ρ)
theorem rs_expr (h : RE X W e t) (hs : swapsWith e none pos.line X.env = pure false := by rfl) : RS X W (.Expr e pos) (dDrop t) := by
  obtain ⟨te, h1, h2⟩ := h.run
  exact ⟨_, ps_expr h1 hs, fun F0 H0 ρ σ F H D d e c q => h2 ρ σ F H _ _ _ e.rl (c.ex ρ σ F H e) (fun x v F1 H1 g r q => c.nx ρ σ F1 H1 (e.step g) q) q⟩
def dIf (t : TDb) (u v : DS) : DS := fun d ρ => t ρ (fun b => ifP b (u d ρ) (v d ρ)) (d.ex ρ)
theorem rs_if {tb : TDb} {xs ys : List Stmt} (h : RT X W e tb) (ha : RSs X W xs u) (hb : RSs X W ys v) : RS X W (.If e xs ys pos) (dIf tb u v) := by
  obtain ⟨te, h1, h2⟩ := h.run
  obtain ⟨t1, a1, a2⟩ := ha.run
  obtain ⟨t2, b1, b2⟩ := hb.run
  refine ⟨_, ps_if h1 a1 b1, fun F0 H0 ρ σ F H D d e c q => h2 ρ σ F H _ _ _ e.rl (c.ex ρ σ F H e) (fun k F1 H1 g q => ?_) q⟩
  cases k with
  | true => exact a2 F0 H0 ρ σ F1 H1 D d (e.step g) c q
  | false => exact b2 F0 H0 ρ σ F1 H1 D d (e.step g) c q
/-! ### stores -/
theorem Ent.set {K : PySem.W.Frag} {F0 H0 : Hp} {ρ : Env'} {σ : L2.St} {F H : Hp} (e : Ent K F0 H0 ρ σ F H) (i : Nat) {d : D} {v : V} (r : Rep K F d v) : Ent K F0 H0 (ρ.set i (.sh d)) (σ.set i (some v)) F H := by
  refine ⟨e.rl.set i r, e.go, fun j s p h o hs => ?_⟩
  by_cases hj : i = j
  · subst hj
    by_cases hl : i < ρ.length
    · rw [List.getElem?_set_self hl] at h; cases h; cases o
    · rw [List.getElem?_eq_none (by rw [List.length_set]; omega)] at h; cases h
  · rw [List.getElem?_set_ne hj] at h hs
    exact e.new j s p h o hs
theorem Ent.sets {K : PySem.W.Frag} {F0 H0 F H : Hp} : ∀ (us : List (Nat × D × V)) {ρ : Env'} {σ : L2.St}, Ent K F0 H0 ρ σ F H → (∀ u ∈ us, Rep K F u.2.1 u.2.2) → Ent K F0 H0 (us.foldl (fun r u => r.set u.1 (.sh u.2.1)) ρ) (us.foldl (fun s u => s.set u.1 (some u.2.2)) σ) F H
  | [], _, _, r, _ => r
  | u :: us, _, _, r, h => Ent.sets us (r.set u.1 (h u List.mem_cons_self)) fun v hv => h v (List.mem_cons_of_mem _ hv)
def dSet (i : Nat) (t : TD) : DS := fun d ρ => t ρ (fun x => d.nx (ρ.set i (.sh x))) (d.ex ρ)
theorem rs_set (i : Nat) {x : Str} {pos' : Pos} (hN : X.N.Nodup) (h : RE X W e t) (hi : X.N[i]? = some x := by rfl) (hx : Loc X.env.scope x := by first | exact Or.inl rfl | exact Or.inr rfl) (hs : swapsWith e (some (.Name x pos')) pos.line X.env = pure false := by rfl) (hf : X.fn x = true ∨ X.env.scope.names.lookup x = some .local := by first | exact .inl rfl | exact .inr rfl) :
    RS X W (.Assign [.Name x pos'] e pos) (dSet i t) := by
  obtain ⟨te, h1, h2⟩ := h.run
  exact ⟨_, ps_set hN hi hx h1 hs hf, fun F0 H0 ρ σ F H D d e c q => h2 ρ σ F H _ _ _ e.rl (c.ex ρ σ F H e) (fun x v F1 H1 g r q => c.nx _ _ F1 H1 ((e.step g).set i r) q) q⟩
/-- a list of one's own at a name -/
theorem Ent.setOw {K : PySem.W.Frag} {F0 H0 : Hp} {ρ : Env'} {σ : L2.St} {F H F1 H1 : Hp} (e : Ent K F0 H0 ρ σ F H) (g : Go F H F1 H1) (i : Nat) {ds : List D} {p : Addr} {vs : List V} (np : H p = none) (hp : H1 p = some (.lst vs)) (fp : F1 p = none) (z : vs.length ≤ sizeLine) (r : Reps K F1 ds vs) :
    Ent K F0 H0 (ρ.set i (.ow ds)) (σ.set i (some (.ref p))) F1 H1 := by
  have e1 := e.step g
  have lt : ∀ {s : Sl}, (ρ.set i (.ow ds))[i]? = some s → i < ρ.length := fun h => by
    have z := (List.getElem?_eq_some_iff.mp h).1
    rw [List.length_set] at z; exact z
  have at_i : ∀ {s : Sl}, (ρ.set i (.ow ds))[i]? = some s → s = .ow ds ∧ (σ.set i (some (.ref p)))[i]? = some (some (.ref p)) := fun h => by
    have l := lt h
    rw [List.getElem?_set_self l] at h
    exact ⟨(Option.some.inj h).symm, List.getElem?_set_self (by rw [← e.rl.len]; exact l)⟩
  have ne : ∀ {j : Nat}, i ≠ j → (ρ.set i (.ow ds))[j]? = ρ[j]? ∧ (σ.set i (some (.ref p)))[j]? = σ[j]? := fun h => ⟨List.getElem?_set_ne h, List.getElem?_set_ne h⟩
  have old : ∀ {j : Nat} {s : Sl} {q : Addr}, ρ[j]? = some s → s.own = true → σ[j]? = some (some (.ref q)) → q ≠ p := fun {j s q} h o hs z => by
    subst z
    cases s with
    | no => cases o
    | sh d => cases o
    | ow es =>
      obtain ⟨p', _, h1, h2, _⟩ := e.rl.ow j es h
      rw [h1] at hs; cases hs; rw [np] at h2; cases h2
    | oi C fs =>
      obtain ⟨p', _, _, h1, h2, _⟩ := e.rl.oi j C fs h
      rw [h1] at hs; cases hs; rw [np] at h2; cases h2
    | od kvs =>
      obtain ⟨p', _, h1, h2, _⟩ := e.rl.od j kvs h
      rw [h1] at hs; cases hs; rw [np] at h2; cases h2
  refine ⟨⟨by rw [List.length_set, List.length_set]; exact e.rl.len, e1.rl.fh, fun j d h => ?_, fun j es h => ?_, fun j C fs h => ?_, fun j kvs h => ?_, fun j k s s' w h1 o1 h2 o2 h3 h4 => ?_⟩, e1.go, fun j s q h o hs => ?_⟩
  · by_cases hj : i = j
    · subst hj; cases (at_i h).1
    · rw [(ne hj).1] at h; rw [(ne hj).2]; exact e1.rl.sh j d h
  · by_cases hj : i = j
    · subst hj
      obtain ⟨q1, q2⟩ := at_i h
      cases q1
      exact ⟨p, vs, q2, hp, fp, z, r⟩
    · rw [(ne hj).1] at h; rw [(ne hj).2]; exact e1.rl.ow j es h
  · by_cases hj : i = j
    · subst hj; cases (at_i h).1
    · rw [(ne hj).1] at h; rw [(ne hj).2]; exact e1.rl.oi j C fs h
  · by_cases hj : i = j
    · subst hj; cases (at_i h).1
    · rw [(ne hj).1] at h; rw [(ne hj).2]; exact e1.rl.od j kvs h
  · by_cases hj : i = j
    · by_cases hk : i = k
      · rw [← hj, hk]
      · subst hj
        rw [(at_i h1).2] at h3; cases h3
        rw [(ne hk).1] at h2; rw [(ne hk).2] at h4
        exact absurd rfl (old h2 o2 h4)
    · by_cases hk : i = k
      · subst hk
        rw [(at_i h2).2] at h4; cases h4
        rw [(ne hj).1] at h1; rw [(ne hj).2] at h3
        exact absurd rfl (old h1 o1 h3)
      · rw [(ne hj).1] at h1; rw [(ne hj).2] at h3; rw [(ne hk).1] at h2; rw [(ne hk).2] at h4
        exact e.rl.inj j k s s' w h1 o1 h2 o2 h3 h4
  · by_cases hj : i = j
    · subst hj
      rw [(at_i h).2] at hs; cases hs
      exact e.go.hh.free np
    · rw [(ne hj).1] at h; rw [(ne hj).2] at hs; exact e.new j s q h o hs
def dOwn (i : Nat) (t : TDs) : DS := fun d ρ => t ρ (fun x => d.nx (ρ.set i (.ow x))) (d.ex ρ)
theorem rs_own (i : Nat) {x : Str} {pos' : Pos} {tn : TDs} (hN : X.N.Nodup) (h : RN X W e tn) (hi : X.N[i]? = some x := by rfl) (hx : Loc X.env.scope x := by first | exact Or.inl rfl | exact Or.inr rfl) (hs : swapsWith e (some (.Name x pos')) pos.line X.env = pure false := by rfl) (hf : X.fn x = true ∨ X.env.scope.names.lookup x = some .local := by first | exact .inl rfl | exact .inr rfl) :
    RS X W (.Assign [.Name x pos'] e pos) (dOwn i tn) := by
  obtain ⟨te, h1, h2⟩ := h.run
  exact ⟨_, ps_set hN hi hx h1 hs hf, fun F0 H0 ρ σ F H D d e c q => h2 ρ σ F H _ _ _ e.rl (c.ex ρ σ F H e) (fun ds p vs F1 H1 g np hp fp z r q => c.nx _ _ F1 H1 (e.setOw g i np hp fp z r) q) q⟩
/-- y = [..], y a plain local name -/
theorem rs_ownLc (i : Nat) {y : Str} {py : Pos} {elt tg iter : Expr} {ifs : List Expr} {scope : Scope} {own : List (Str × Nat)} {pos' spos : Pos} {ti : TDs} {g : DG} {js : List Nat} {tt : TDb} {te : TD} (hN : X.N.Nodup) (hi : RI X W tg iter ti) (ok : BlkOk X.N X.env.scope scope own)
    (hg : ∀ (s : Shared) (H : Hp) (C : Addr) (cl : List (Str × Addr)) (fp : List Addr), RG (X.blk s H scope (compEnvC scope cl C X.env) fp) tg js g)
    (ht : ∀ (s : Shared) (H : Hp) (C : Addr) (cl : List (Str × Addr)) (fp : List Addr), RTs (X.blk s H scope (compEnvC scope cl C X.env) fp) W0 ifs tt)
    (he : ∀ (s : Shared) (H : Hp) (C : Addr) (cl : List (Str × Addr)) (fp : List Addr), RE (X.blk s H scope (compEnvC scope cl C X.env) fp) W0 elt te)
    (hsw : swapsWith (.ListComp elt [⟨tg, iter, ifs, 0⟩] scope pos') (some (.Name y py)) spos.line X.env = pure true)
    (hy : X.N[i]? = some y := by rfl) (hyl : X.env.scope.names.lookup y = some .local := by rfl)
    {vs : List Nat} (hv : own.map (·.2) = vs := by rfl) (hjs : ∀ i ∈ js, i ∈ vs := by decide) (hc : X.calm = true := by rfl) (hs : ∀ x, foldedSetIterable iter X.env x = pure x := by intro _; rfl) :
    RS X W (.Assign [.Name y py] (.ListComp elt [⟨tg, iter, ifs, 0⟩] scope pos') spos) (dOwn i (dLcN ti g tt te vs)) := by
  subst hv
  obtain ⟨wi, h1, h2⟩ := hi.run
  refine ⟨_, ps_setLc (g := liftG X.K js g) (tt := liftT X.K W0 tt) (te := liftE X.K W0 te) hc hN hy hyl hsw h1 ok (fun s H C cl fp => (hg s H C cl fp).lift) (fun s H C cl fp => (ht s H C cl fp).lift) (fun s H C cl fp => (he s H C cl fp).lift) hs, fun F0 H0 ρ σ F H D d e c q => ?_⟩
  exact lc_run (Q := fun x H1 => gName i x σ H1 D.nx) hjs h2 e.rl (c.ex ρ σ F H e) (fun ds p vs F1 H1 g np hp fp z r q => c.nx _ _ F1 H1 (e.setOw g i np hp fp z r) q) q
theorem rs_setLc (i : Nat) {y : Str} {py : Pos} {elt tg iter : Expr} {ifs : List Expr} {scope : Scope} {own : List (Str × Nat)} {pos' spos : Pos} {ti : TDs} {g : DG} {js : List Nat} {tt : TDb} {te : TD} (hN : X.N.Nodup) (hi : RI X W tg iter ti) (ok : BlkOk X.N X.env.scope scope own)
    (hg : ∀ (s : Shared) (H : Hp) (C : Addr) (cl : List (Str × Addr)) (fp : List Addr), RG (X.blk s H scope (compEnvC scope cl C X.env) fp) tg js g)
    (ht : ∀ (s : Shared) (H : Hp) (C : Addr) (cl : List (Str × Addr)) (fp : List Addr), RTs (X.blk s H scope (compEnvC scope cl C X.env) fp) W0 ifs tt)
    (he : ∀ (s : Shared) (H : Hp) (C : Addr) (cl : List (Str × Addr)) (fp : List Addr), RE (X.blk s H scope (compEnvC scope cl C X.env) fp) W0 elt te)
    (hsw : swapsWith (.ListComp elt [⟨tg, iter, ifs, 0⟩] scope pos') (some (.Name y py)) spos.line X.env = pure true)
    (hy : X.N[i]? = some y := by rfl) (hyl : X.env.scope.names.lookup y = some .local := by rfl)
    {vs : List Nat} (hv : own.map (·.2) = vs := by rfl) (hjs : ∀ i ∈ js, i ∈ vs := by decide) (hc : X.calm = true := by rfl) (hs : ∀ x, foldedSetIterable iter X.env x = pure x := by intro _; rfl) :
    RS X W (.Assign [.Name y py] (.ListComp elt [⟨tg, iter, ifs, 0⟩] scope pos') spos) (dSet i (dLc ti g tt te vs)) := by
  subst hv
  obtain ⟨wi, h1, h2⟩ := hi.run
  refine ⟨_, ps_setLc (g := liftG X.K js g) (tt := liftT X.K W0 tt) (te := liftE X.K W0 te) hc hN hy hyl hsw h1 ok (fun s H C cl fp => (hg s H C cl fp).lift) (fun s H C cl fp => (ht s H C cl fp).lift) (fun s H C cl fp => (he s H C cl fp).lift) hs, fun F0 H0 ρ σ F H D d e c q => ?_⟩
  exact lc_run (Q := fun x H1 => gName i x σ H1 D.nx) hjs h2 e.rl (c.ex ρ σ F H e) (fun ds p vs F1 H1 g np hp fp z r q => c.nx _ _ _ H1 ((e.step (g.freeze np hp fp)).set i (.lst upd_same z (r.mono (same_upd fp)))) q) q
/-- a list of one's own is changed -/
theorem Ent.putOw {K : PySem.W.Frag} {F0 H0 : Hp} {ρ : Env'} {σ : L2.St} {F H : Hp} (e : Ent K F0 H0 ρ σ F H) {i : Nat} {ds es : List D} {p : Addr} {ws : List V} (hi : ρ[i]? = some (.ow ds)) (hs : σ[i]? = some (some (.ref p))) (z : ws.length ≤ sizeLine) (r : Reps K F es ws) :
    Ent K F0 H0 (ρ.set i (.ow es)) σ F (upd H p (.lst ws)) := by
  obtain ⟨p', vs, h1, h2, h3, h4, h5⟩ := e.rl.ow i ds hi
  rw [hs] at h1; cases h1
  have h0 := e.new i _ p hi rfl hs
  have il := (List.getElem?_eq_some_iff.mp hi).1
  have at_i : ∀ {s : Sl}, (ρ.set i (.ow es))[i]? = some s → s = .ow es := fun h => by
    rw [List.getElem?_set_self il] at h; exact (Option.some.inj h).symm
  have ne : ∀ {j : Nat}, i ≠ j → (ρ.set i (.ow es))[j]? = ρ[j]? := fun h => List.getElem?_set_ne h
  have np : ∀ {j : Nat} {s : Sl} {q : Addr}, i ≠ j → ρ[j]? = some s → s.own = true → σ[j]? = some (some (.ref q)) → q ≠ p := fun {j s q} hj h o hq z => by
    subst z
    exact hj (e.rl.inj i j _ s _ hi rfl h o hs hq)
  have sm : ∀ {A : Hp}, A p = none → Same A H → Same A (upd H p (.lst ws)) := fun n s b u q => by
    rw [upd_ne (ne_of_none q n)]; exact s b u q
  refine ⟨⟨by rw [List.length_set]; exact e.rl.len, sm h3 e.rl.fh, fun j d h => ?_, fun j fs h => ?_, fun j C fs h => ?_, fun j kvs h => ?_, fun j k s s' w g1 o1 g2 o2 g3 g4 => ?_⟩, ⟨e.go.ff, sm h0 e.go.hh, sm h3 e.rl.fh, e.go.nn⟩, fun j s q h o hq => ?_⟩
  · by_cases hj : i = j
    · subst hj; cases at_i h
    · rw [ne hj] at h; exact e.rl.sh j d h
  · by_cases hj : i = j
    · subst hj
      cases at_i h
      exact ⟨p, ws, hs, upd_same, h3, z, r⟩
    · rw [ne hj] at h
      obtain ⟨q, us, g1, g2, g3⟩ := e.rl.ow j fs h
      exact ⟨q, us, g1, by rw [upd_ne (np hj h rfl g1)]; exact g2, g3⟩
  · by_cases hj : i = j
    · subst hj; cases at_i h
    · rw [ne hj] at h
      obtain ⟨q, dx, us, g1, g2, g3⟩ := e.rl.oi j C fs h
      exact ⟨q, dx, us, g1, by rw [upd_ne (np hj h rfl g1)]; exact g2, g3⟩
  · by_cases hj : i = j
    · subst hj; cases at_i h
    · rw [ne hj] at h
      obtain ⟨q, us, g1, g2, g3⟩ := e.rl.od j kvs h
      exact ⟨q, us, g1, by rw [upd_ne (np hj h rfl g1)]; exact g2, g3⟩
  · have low : ∀ {j : Nat} {s : Sl}, (ρ.set i (.ow es))[j]? = some s → s.own = true → ∃ s', ρ[j]? = some s' ∧ s'.own = true := fun {j s} h o => by
      by_cases hj : i = j
      · subst hj; exact ⟨_, hi, rfl⟩
      · rw [ne hj] at h; exact ⟨s, h, o⟩
    obtain ⟨s1, q1, q2⟩ := low g1 o1
    obtain ⟨s2, q3, q4⟩ := low g2 o2
    exact e.rl.inj j k s1 s2 w q1 q2 q3 q4 g3 g4
  · by_cases hj : i = j
    · subst hj; rw [hs] at hq; cases hq; exact h0
    · rw [ne hj] at h; exact e.new j s q h o hq
/-- where a list of one's own is wanted -/
def owAt (ρ : Env') (i : Nat) (Q : List D → Prop) : Prop := match ρ[i]? with
  | some (.ow ds) => Q ds
  | _ => False
theorem owAt_inv {ρ : Env'} {i : Nat} {Q : List D → Prop} (h : owAt ρ i Q) : ∃ ds, ρ[i]? = some (.ow ds) ∧ Q ds := by
  unfold owAt at h
  split at h
  · exact ⟨_, by assumption, h⟩
  · exact h.elim
/-- x.append(e), x a list of one's own -/
def dApp (i : Nat) (t : TD) : DS := fun d ρ => owAt ρ i fun ds => t ρ (fun y => few (ds ++ [y]) ∧ d.nx (ρ.set i (.ow (ds ++ [y])))) (d.ex ρ)
theorem rs_app (i : Nat) {x : Str} {p1 apos cpos : Pos} (h : RE X W e t) (hN : X.N[i]? = some x := by rfl) (hv : Vis X.env.scope x := by first | exact Or.inl rfl | exact Or.inr (Or.inl rfl) | exact Or.inr (Or.inr rfl))
    (hd : (x == ("__debug__" : Str)) = false := by decide) (hcd : (x == ("__classdict__" : Str)) = false := by decide)
    (hbase : attributeBase (.Name x p1) "append" X.env (eval (.Name x p1) X.env) = eval (.Name x p1) X.env := by rfl)
    (hfew : ((backTo cpos (starEach [e] X.env)).all (fun x => !x.1) && (backToKw cpos (keywordEach [] X.env)).all (fun x => x.1.isSome)
      && decide (([e] : List Expr).length + ([] : List Keyword).length + (if ([] : List Keyword).isEmpty then 0 else 1) < 30)) = true := by rfl)
    (hline : (apos.endLine == cpos.line) = true := by rfl) (hs : starEach [e] X.env = (false, eval e X.env) :: starEach [] X.env := by rfl) (hplain : (backTo cpos (starEach [] X.env)).any (·.1) = false := by rfl)
    (hsw : swapsWith (.Call (.Attribute (.Name x p1) "append" apos) [e] [] cpos) none pos.line X.env = pure false := by rfl) :
    RS X W (.Expr (.Call (.Attribute (.Name x p1) "append" apos) [e] [] cpos) pos) (dApp i t) := by
  obtain ⟨te, h1, h2⟩ := h.run
  refine ⟨_, ps_expr (pe_bm PySem.F.plainAttrs_list PySem.F.slot_list_append PySem.F.type_list_append mt_append (pe_var hN hv hd hcd) (pa_cons h1 pa_nil hs) hbase hfew hline hs hplain) hsw, fun F0 H0 ρ σ F H D d e c q => ?_⟩
  obtain ⟨ds, ho, q⟩ := owAt_inv q
  obtain ⟨p, vs, g1, g2, g3, g4, g5⟩ := e.rl.ow i ds ho
  refine ⟨_, g1, .inl ⟨rfl, vs, SqL.of g2⟩, ?_⟩
  refine h2 ρ σ F H _ _ _ e.rl (c.ex ρ σ F H e) (fun y v F1 H1 g r q1 => ?_) q
  have e1 := e.step g
  obtain ⟨p', vs', g1', g2', g3', g4', g5'⟩ := e1.rl.ow i ds ho
  rw [g1] at g1'; cases g1'
  have zz : (vs' ++ [v]).length ≤ sizeLine := few_line (g5'.append (.cons r .nil)) q1.1
  refine ⟨p, vs', v, rfl, rfl, g2', by rw [List.length_append, List.length_singleton] at zz; omega, ?_⟩
  exact c.nx _ _ F1 _ (e1.putOw ho g1 zz (g5'.append (.cons r .nil))) q1.2
/-- x[i] = e, x a list of one's own -/
def dPut (i : Nat) (ti te : TD) : DS := fun d ρ => te ρ (fun y => owAt ρ i fun ds => ti ρ (asI fun k => asO (fun j => d.nx (ρ.set i (.ow (ds.set j y)))) (ixN ds.length k)) (d.ex ρ)) (d.ex ρ)
theorem rs_put (i : Nat) {x : Str} {p1 spos : Pos} (hk : RP X W a ta) (h : RE X W e t) (hN : X.N[i]? = some x := by rfl) (hv : Vis X.env.scope x := by first | exact Or.inl rfl | exact Or.inr (Or.inl rfl) | exact Or.inr (Or.inr rfl))
    (hd : (x == ("__debug__" : Str)) = false := by decide) (hcd : (x == ("__classdict__" : Str)) = false := by decide)
    (hs : swapsWithSole [.Subscript (.Name x p1) a spos] e pos.line X.env = pure false := by rfl) (hw : swappedStores [.Subscript (.Name x p1) a spos] e X.env = pure none := by rfl)
    (h1 : (assignEach [.Subscript (.Name x p1) a spos] X.env).map (·.2) = [assign (.Subscript (.Name x p1) a spos) X.env] := by rfl)
    (ha : ∀ v, assign (.Subscript (.Name x p1) a spos) X.env v = (holding [v] (eval (.Name x p1) X.env) >>= fun ov => holding [v, ov] (eval a X.env) >>= fun iv => standAt spos >>= fun _ => holding [v, ov, iv] (setItem ov iv v) >>= fun _ => release [v, ov, iv] []) := by intro _; rfl) :
    RS X W (.Assign [.Subscript (.Name x p1) a spos] e pos) (dPut i ta t) := by
  obtain ⟨tk, k1, k2⟩ := hk.run
  obtain ⟨te, e1, e2⟩ := h.run
  refine ⟨_, ps_asg e1 (pg_sub (pe_var hN hv hd hcd) k1 set_list ha) hs hw h1, fun F0 H0 ρ σ F H D d en c q => ?_⟩
  refine e2 ρ σ F H _ _ _ en.rl (c.ex ρ σ F H en) (fun y v F1 H1 g r q1 => ?_) q
  obtain ⟨ds, ho, q2⟩ := owAt_inv q1
  have en1 := en.step g
  obtain ⟨p, vs, g1, g2, g3, g4, g5⟩ := en1.rl.ow i ds ho
  refine ⟨_, g1, ?_⟩
  refine k2 ρ σ F1 H1 _ _ _ en1.rl (c.ex ρ σ F1 H1 en1) (fun kd kv F2 H2 gg pk q3 => ?_) q2
  obtain ⟨k, rfl, q4⟩ := asI_inv q3
  obtain ⟨j, hj, q5⟩ := asO_inv q4
  cases pk.int
  have en2 := en1.step gg
  obtain ⟨p', vs', g1', g2', g3', g4', g5'⟩ := en2.rl.ow i ds ho
  rw [g1] at g1'; cases g1'
  have zz : (vs'.set j v).length ≤ sizeLine := by rw [List.length_set]; exact g4'
  exact ⟨p, vs', k, j, rfl, rfl, g2', by rw [g5'.length]; exact hj, c.nx _ _ F2 _ (en2.putOw ho g1 zz (g5'.set (r.mono gg.ff) j)) q5⟩
/-- a list of one's own is given out of hand -/
def dFrz (i : Nat) (u : DS) : DS := fun d ρ => match ρ[i]? with
  | some (.ow ds) => u d (ρ.set i (.sh (.lst ds)))
  | _ => u d ρ
theorem rss_frz (i : Nat) {sts : List Stmt} (h : RSs X W sts u) : RSs X W sts (dFrz i u) := by
  obtain ⟨ts, h1, h2⟩ := h.run
  refine ⟨ts, h1, fun F0 H0 ρ σ F H D d en c q => ?_⟩
  unfold dFrz at q
  split at q
  · rename_i ds ho
    obtain ⟨p, vs, g1, g2, g3, g4, g5⟩ := en.rl.ow i ds ho
    have h0 := en.new i _ p ho rfl g1
    have sm : Same F (upd F p (.lst vs)) := same_upd g3
    have fz : Same (upd F p (.lst vs)) H := fun b u q => by
      by_cases z : b = p
      · subst z; rw [upd_same] at q; cases q; exact g2
      · rw [upd_ne z] at q; exact en.rl.fh _ _ q
    have il := (List.getElem?_eq_some_iff.mp ho).1
    have at_i : ∀ {s : Sl}, (ρ.set i (.sh (.lst ds)))[i]? = some s → s = .sh (.lst ds) := fun h => by
      rw [List.getElem?_set_self il] at h; exact (Option.some.inj h).symm
    have ne : ∀ {j : Nat}, i ≠ j → (ρ.set i (.sh (.lst ds)))[j]? = ρ[j]? := fun h => List.getElem?_set_ne h
    have np : ∀ {j : Nat} {s : Sl} {q : Addr}, i ≠ j → ρ[j]? = some s → s.own = true → σ[j]? = some (some (.ref q)) → q ≠ p := fun {j s q} hj h o hq z => by
      subst z
      exact hj (en.rl.inj i j _ s _ ho rfl h o g1 hq)
    refine h2 F0 H0 _ σ (upd F p (.lst vs)) H D d ⟨⟨by rw [List.length_set]; exact en.rl.len, fz, fun j d h => ?_, fun j fs h => ?_, fun j C fs h => ?_, fun j kvs h => ?_, fun j k s s' w q1 o1 q2 o2 q3 q4 => ?_⟩, ⟨en.go.ff.trans sm, en.go.hh, fz, fun q q1 q2 => ?_⟩, fun j s q h o hq => ?_⟩ c q
    · by_cases hj : i = j
      · subst hj
        cases at_i h
        exact ⟨_, g1, .lst upd_same g4 (g5.mono sm)⟩
      · rw [ne hj] at h
        obtain ⟨v, q1, q2⟩ := en.rl.sh j d h
        exact ⟨v, q1, q2.mono sm⟩
    · by_cases hj : i = j
      · subst hj; cases at_i h
      · rw [ne hj] at h
        obtain ⟨q, us, q1, q2, q3, q4, q5⟩ := en.rl.ow j fs h
        exact ⟨q, us, q1, q2, by rw [upd_ne (np hj h rfl q1)]; exact q3, q4, q5.mono sm⟩
    · by_cases hj : i = j
      · subst hj; cases at_i h
      · rw [ne hj] at h
        obtain ⟨q, dx, us, q1, q2, q3, q5, q6⟩ := en.rl.oi j C fs h
        exact ⟨q, dx, us, q1, q2, by rw [upd_ne (np hj h rfl q1)]; exact q3, q5.mono sm, q6⟩
    · by_cases hj : i = j
      · subst hj; cases at_i h
      · rw [ne hj] at h
        obtain ⟨q, us, q1, q2, q3, q5⟩ := en.rl.od j kvs h
        exact ⟨q, us, q1, q2, by rw [upd_ne (np hj h rfl q1)]; exact q3, q5.mono sm⟩
    · have low : ∀ {j : Nat} {s : Sl}, (ρ.set i (.sh (.lst ds)))[j]? = some s → s.own = true → ρ[j]? = some s := fun {j s} h o => by
        by_cases hj : i = j
        · subst hj; rw [at_i h] at o; cases o
        · rw [ne hj] at h; exact h
      exact en.rl.inj j k s s' w (low q1 o1) o1 (low q2 o2) o2 q3 q4
    · have : q ≠ p := fun z => by rw [z] at q2; exact q2 h0
      rw [upd_ne this]; exact en.go.nn q q1 q2
    · by_cases hj : i = j
      · subst hj; rw [at_i h] at o; cases o
      · rw [ne hj] at h; exact en.new j s q h o hq
  · exact h2 F0 H0 ρ σ F H D d en c q
end
end Dl

/-! The D-layer, part 9: targets, loops, raise, defs. -/
namespace Dl
open PySem PySem.Spec
open PyProof.Rows L2
section
variable {X : Cx} {W : WX} {st : Stmt} {rest : List Stmt} {e a b c tg : Expr} {es : List Expr} {t ta tb tc : TD} {ts : TDs} {u v : DS} {pos : Pos}
/-! ### (a, b) = e; a, b = x, y -/
def dAsg (t : TD) (g : DG) : DS := fun d ρ => t ρ (fun x => g x ρ d.nx) (d.ex ρ)
theorem rs_asg {js : List Nat} {g : DG} (h : RE X W e t) (hg : RG X tg js g) (hs : swapsWithSole [tg] e pos.line X.env = pure false := by rfl) (hw : swappedStores [tg] e X.env = pure none := by rfl)
    (h1 : (assignEach [tg] X.env).map (·.2) = [assign tg X.env] := by rfl) : RS X W (.Assign [tg] e pos) (dAsg t g) := by
  obtain ⟨te, e1, e2⟩ := h.run
  obtain ⟨g', g1, g2⟩ := hg.run
  refine ⟨_, ps_asg e1 g1 hs hw h1, fun F0 H0 ρ σ F H D d en c q => e2 ρ σ F H _ _ _ en.rl (c.ex ρ σ F H en) (fun x v F1 H1 g r q1 => ?_) q⟩
  refine g2 ρ σ F1 H1 x v _ _ en.rl.len g.fh r (fun ρ' σ' us e3 e4 hu q2 => ?_) q1
  rw [e4]
  rw [e3] at q2
  exact c.nx _ _ F1 H1 ((en.step g).sets us fun u hu' => (hu u hu').2) q2
/-! ### for -/
def loopR (g : DG) (tb : DS) (d : DE) : List D → Env' → Prop
  | [], ρ => d.nx ρ
  | x :: xs, ρ => g x ρ fun ρ2 => tb { d with nx := loopR g tb d xs, ct := loopR g tb d xs, bk := d.nx } ρ2
/-- the same, shut: a reading stops there -/
structure loopD (g : DG) (tb : DS) (d : DE) (xs : List D) (ρ : Env') : Prop where
  out : loopR g tb d xs ρ
theorem loopD_eq (g : DG) (tb : DS) (d : DE) (xs : List D) : loopD g tb d xs = loopR g tb d xs := funext fun _ => propext ⟨fun h => h.out, fun h => ⟨h⟩⟩
def dFor (ti : TDs) (g : DG) (tb : DS) : DS := fun d ρ => ti ρ (fun xs => loopD g tb d xs ρ) (d.ex ρ)
theorem rs_for {iter : Expr} {body : List Stmt} {js : List Nat} {ti : TDs} {g : DG} (hp : PassesOwn (model X.prog X.w) X.A X.env X.xe) (hi : RI X W tg iter ti) (hg : RG X tg js g) (hb : RSs X W body u) (hc : X.calm = true := by rfl)
    (hs : ∀ x, foldedSetIterable iter X.env x = pure x := by intro _; rfl) : RS X W (.For tg iter body [] pos) (dFor ti g u) := by
  obtain ⟨wi, i1, i2⟩ := hi.run
  obtain ⟨tg', g1, g2⟩ := hg.run
  obtain ⟨ts, b1, b2⟩ := hb.run
  refine ⟨_, ps_for hp hc i1 g1 b1 hs, fun F0 H0 ρ σ F H D d en c q => ?_⟩
  refine i2 ρ σ F H _ _ _ en.rl (c.ex ρ σ F H en) (fun xs J F1 H1 gg jw zl q1 => ?_) q
  obtain ⟨G, Y, w, hG, hY⟩ := jw.go
  have en1 := en.step gg
  have cb := c.base en1.go
  refine for_it w (fun i σ' H' => ∃ ρ' F', Ent X.K F1 H0 ρ' σ' F' H' ∧ loopR g u d (xs.drop i) ρ') ⟨ρ, F1, en1.here, by rw [List.drop_zero]; exact q1.out⟩ ?_ ?_ ?_
  · rintro i σ' H' _ ⟨ρ', F', en', _⟩
    exact hG F' H' en'.go.ff en'.rl.fh
  · rintro i x σ' H' H'' hlt ⟨ρ', F', en', q2⟩ y
    obtain ⟨F2, xd, hd, g3, rx⟩ := hY i F' H' x H'' hlt en'.go.ff en'.rl.fh y
    rw [List.drop_eq_getElem_cons hlt] at q2
    have hd' : xs[i] = xd := by
      rw [List.getElem?_eq_getElem hlt] at hd
      exact Option.some.inj hd
    rw [hd'] at q2
    have en2 := en'.step g3
    refine g2 ρ' σ' F2 H'' xd x _ _ en2.rl.len g3.fh rx (fun ρ2 σ2 us e3 e4 hu q3 => ?_) q2
    have en3 : Ent X.K F1 H0 ρ2 σ2 F2 H'' := by
      rw [e3, e4]; exact en2.sets us fun u hu' => (hu u hu').2
    refine b2 F1 H0 ρ2 σ2 F2 H'' _ { d with nx := loopR g u d (xs.drop (i + 1)), ct := loopR g u d (xs.drop (i + 1)), bk := d.nx } en3 ⟨fun ρ σ F H e q => ⟨ρ, F, e, q⟩, cb.rt, cb.nx, fun ρ σ F H e q => ⟨ρ, F, e, q⟩, cb.ex, cb.rt1, cb.rt2⟩ q3
  · rintro σ' H' ⟨ρ', F', en', q2⟩
    rw [List.drop_length] at q2
    exact cb.nx ρ' σ' F' H' en' q2
/-- by an invariant over what is left -/
theorem loopR_by {g : DG} {tb : DS} {d : DE} (I : List D → Env' → Prop) (h0 : ∀ ρ, I [] ρ → d.nx ρ)
    (hs : ∀ x xs ρ, I (x :: xs) ρ → ∀ N : Env' → Prop, (∀ ρ', I xs ρ' → N ρ') → g x ρ fun ρ2 => tb { d with nx := N, ct := N, bk := d.nx } ρ2) : ∀ xs ρ, I xs ρ → loopR g tb d xs ρ
  | [], ρ, h => h0 ρ h
  | x :: xs, ρ, h => hs x xs ρ h _ fun ρ' h' => loopR_by I h0 hs xs ρ' h'
theorem loop_by {g : DG} {tb : DS} {d : DE} (I : List D → Env' → Prop) (h0 : ∀ ρ, I [] ρ → d.nx ρ)
    (hs : ∀ x xs ρ, I (x :: xs) ρ → ∀ N : Env' → Prop, (∀ ρ', I xs ρ' → N ρ') → g x ρ fun ρ2 => tb { d with nx := N, ct := N, bk := d.nx } ρ2) (xs : List D) (ρ : Env') (h : I xs ρ) : loopD g tb d xs ρ := ⟨loopR_by I h0 hs xs ρ h⟩
/-! ### while -/
/-! ### raise X('..'), X of one's own without __init__ -/
def dRaise (C : Addr) : DS := fun d ρ => d.ex ρ (.ins C [])
/-- what a raise asks of the text about its class -/
structure ExCls (K : PySem.W.Frag) (mg : Str → Option Value) (x : Str) (C : Addr) : Prop where
  ix : PySem.W.excIn K C [.type "ValueError", .type "Exception", .type "BaseException", .type "object"] "ValueError.__new__" = true
  gC : mg x = some (.ref C)
  kC : PySem.W.keepIn K (.ref C) = true
  bC : PySem.W.subIn K (.ref C) (.type "BaseException") = some true
  tC : PySem.W.typeIn K (.ref C) = some (.type "type")
theorem rs_raise {x m : Str} {j : Nat} {p p2 pos' : Pos} {C : Addr} (h : ExCls X.K X.mg x C) (tk : Takes X W) (hg : Gl X x := by rfl) (hc : X.calm = true := by rfl) (hdb : (x == ("__debug__" : Str)) = false := by decide) :
    RS X W (.Raise (some (.Call (.Name x p) [.Constant (.str m) j p2] [] pos')) none pos) (dRaise C) := by
  refine ⟨_, ps_raise hc tk (pmk_own PySem.F.excBase_ValueError h.ix h.gC h.kC (raises_own h.bC h.tC) hg hdb), fun F0 H0 ρ σ F H D d en c q => ?_⟩
  exact c.ex ρ σ F H en _ _ _ F H (.refl en.rl.fh) (.bare C) q
def dNever : DS := fun _ _ => False
theorem rs_never : RS X W st dNever := ⟨_, ps_never, fun F0 H0 ρ σ F H D d en c q => False.elim q⟩
/-! ### self.f = e, self being made -/
theorem Ent.putOi {K : PySem.W.Frag} {F0 H0 : Hp} {ρ : Env'} {σ : L2.St} {F H : Hp} (e : Ent K F0 H0 ρ σ F H) {i : Nat} {C : Addr × Addr} {fs fs' : List (Str × D)} {p dx : Addr} {ws : List (Str × V)} (hi : ρ[i]? = some (.oi C fs)) (hs : σ[i]? = some (some (.ref p))) (r : RepF K F fs' ws) :
    Ent K F0 H0 (ρ.set i (.oi C fs')) σ F (upd H p (.ins C.1 dx ws)) := by
  obtain ⟨p', dx', vs, h1, h2, h3, h5, h6⟩ := e.rl.oi i C fs hi
  rw [hs] at h1; cases h1
  have h0 := e.new i _ p hi rfl hs
  have il := (List.getElem?_eq_some_iff.mp hi).1
  have at_i : ∀ {s : Sl}, (ρ.set i (.oi C fs'))[i]? = some s → s = .oi C fs' := fun h => by
    rw [List.getElem?_set_self il] at h; exact (Option.some.inj h).symm
  have ne : ∀ {j : Nat}, i ≠ j → (ρ.set i (.oi C fs'))[j]? = ρ[j]? := fun h => List.getElem?_set_ne h
  have np : ∀ {j : Nat} {s : Sl} {q : Addr}, i ≠ j → ρ[j]? = some s → s.own = true → σ[j]? = some (some (.ref q)) → q ≠ p := fun {j s q} hj h o hq z => by
    subst z
    exact hj (e.rl.inj i j _ s _ hi rfl h o hs hq)
  have sm : ∀ {A : Hp}, A p = none → Same A H → Same A (upd H p (.ins C.1 dx ws)) := fun n s b u q => by
    rw [upd_ne (ne_of_none q n)]; exact s b u q
  refine ⟨⟨by rw [List.length_set]; exact e.rl.len, sm h3 e.rl.fh, fun j d h => ?_, fun j fs h => ?_, fun j C' fs h => ?_, fun j kvs h => ?_, fun j k s s' w g1 o1 g2 o2 g3 g4 => ?_⟩, ⟨e.go.ff, sm h0 e.go.hh, sm h3 e.rl.fh, e.go.nn⟩, fun j s q h o hq => ?_⟩
  · by_cases hj : i = j
    · subst hj; cases at_i h
    · rw [ne hj] at h; exact e.rl.sh j d h
  · by_cases hj : i = j
    · subst hj; cases at_i h
    · rw [ne hj] at h
      obtain ⟨q, us, g1, g2, g3⟩ := e.rl.ow j fs h
      exact ⟨q, us, g1, by rw [upd_ne (np hj h rfl g1)]; exact g2, g3⟩
  · by_cases hj : i = j
    · subst hj
      cases at_i h
      exact ⟨p, dx, ws, hs, upd_same, h3, r, h6⟩
    · rw [ne hj] at h
      obtain ⟨q, dx, us, g1, g2, g3⟩ := e.rl.oi j C' fs h
      exact ⟨q, dx, us, g1, by rw [upd_ne (np hj h rfl g1)]; exact g2, g3⟩
  · by_cases hj : i = j
    · subst hj; cases at_i h
    · rw [ne hj] at h
      obtain ⟨q, us, g1, g2, g3⟩ := e.rl.od j kvs h
      exact ⟨q, us, g1, by rw [upd_ne (np hj h rfl g1)]; exact g2, g3⟩
  · have low : ∀ {j : Nat} {s : Sl}, (ρ.set i (.oi C fs'))[j]? = some s → s.own = true → ∃ s', ρ[j]? = some s' ∧ s'.own = true := fun {j s} h o => by
      by_cases hj : i = j
      · subst hj; exact ⟨_, hi, rfl⟩
      · rw [ne hj] at h; exact ⟨s, h, o⟩
    obtain ⟨s1, q1, q2⟩ := low g1 o1
    obtain ⟨s2, q3, q4⟩ := low g2 o2
    exact e.rl.inj j k s1 s2 w q1 q2 q3 q4 g3 g4
  · by_cases hj : i = j
    · subst hj; rw [hs] at hq; cases hq; exact h0
    · rw [ne hj] at h; exact e.new j s q h o hq
def putFD (f : Str) (d : D) : List (Str × D) → List (Str × D)
  | [] => [(f, d)]
  | (g, y) :: r => if g = f then (g, d) :: r else (g, y) :: putFD f d r
theorem RepF.put {K : PySem.W.Frag} {F : Hp} {f : Str} {d : D} {v : V} (r : Rep K F d v) : ∀ {fs : List (Str × D)} {ws : List (Str × V)}, RepF K F fs ws → RepF K F (putFD f d fs) (putF f v ws)
  | _, _, .nil => .cons r .nil
  | (g, y) :: _, (_, z) :: _, .cons q s => by
    unfold putFD putF
    by_cases h : g = f
    · rw [if_pos h, if_pos h]; exact .cons r s
    · rw [if_neg h, if_neg h]; exact .cons q (RepF.put r s)
def oiAt (ρ : Env') (i : Nat) (Q : Addr × Addr → List (Str × D) → Prop) : Prop := match ρ[i]? with
  | some (.oi C fs) => Q C fs
  | _ => False
theorem oiAt_inv {ρ : Env'} {i : Nat} {Q : Addr × Addr → List (Str × D) → Prop} (h : oiAt ρ i Q) : ∃ C fs, ρ[i]? = some (.oi C fs) ∧ Q C fs := by
  unfold oiAt at h
  split at h
  · exact ⟨_, _, by assumption, h⟩
  · exact h.elim
def dPutF (K : PySem.W.Frag) (i : Nat) (f : Str) (t : TD) : DS := fun d ρ => t ρ (fun y => oiAt ρ i fun C fs => FldOk K C.1 f ∧ fs.length < 1000 ∧ d.nx (ρ.set i (.oi C (putFD f y fs)))) (d.ex ρ)
theorem rs_fldS {K : PySem.W.Frag} (i : Nat) {x f : Str} {p pos' : Pos} (h : RE X W e t) (hK : X.K = K := by rfl) (hN : X.N[i]? = some x := by rfl) (hv : Vis X.env.scope x := by first | exact Or.inl rfl | exact Or.inr (Or.inl rfl) | exact Or.inr (Or.inr rfl))
    (hd : (x == ("__debug__" : Str)) = false := by decide) (hcd : (x == ("__classdict__" : Str)) = false := by decide) (hs : swapsWith e (some (.Attribute (.Name x p) f pos')) pos.line X.env = pure false := by rfl) :
    RS X W (.Assign [.Attribute (.Name x p) f pos'] e pos) (dPutF K i f t) := by
  subst hK
  obtain ⟨te, e1, e2⟩ := h.run
  refine ⟨_, ps_fld (pe_var hN hv hd hcd) e1 hs, fun F0 H0 ρ σ F H D d en c q => e2 ρ σ F H _ _ _ en.rl (c.ex ρ σ F H en) (fun y v F1 H1 g r q1 => ?_) q⟩
  obtain ⟨C, fs, ho, q2, q3, q4⟩ := oiAt_inv q1
  have en1 := en.step g
  obtain ⟨p, dx, vs, h1, h2, h3, h5, -⟩ := en1.rl.oi i C fs ho
  exact ⟨_, h1, p, C.1, dx, vs, rfl, h2, q2.1, q2.2, by rw [h5.length]; exact q3, c.nx _ _ F1 _ (en1.putOi ho h1 (h5.put r)) q4⟩
/-! ### C(..) -/
/-- what a class's __init__ promises: the arguments, what is wanted of the fields, of an exception -/
abbrev DI := List D → (List (Str × D) → Prop) → EQ → Prop
def spI (K : PySem.W.Frag) (n : Nat) (C : Addr) (G : DI) : Sp := fun vs H Q E => ∃ (ds : List D) (F H1 : Hp) (x dx : Addr) (us : List V) (Qd : List (Str × D) → Prop) (Ed : EQ), vs = .ref x :: us ∧ H = upd (upd H1 dx (.own x)) x (.ins C dx []) ∧ H1 x = none ∧ H1 dx = none ∧ dx ≠ x ∧
  Same F H1 ∧ Reps K F ds us ∧ ds.length + 1 = n ∧ G ds Qd Ed ∧ (∀ fs ws F' H' dx', Go F H1 F' H' → H' x = some (.ins C dx' ws) → F' x = none → RepF K F' fs ws → Qd fs → Q .non H') ∧
  (∀ y cls d F' H', Go F H1 F' H' → XRep K F' H' y cls d → Ed y → E cls d H')
theorem run_makeS {CX : CXT} {k : Nat} {C f : Addr} {fd : FuncData} {ps : List Str} {sp : Sp} {E : L2.St → XK} {ds : List Value} {dvs : List V} {pins : List (Addr × Obj)} {σ : L2.St} {H : Hp} {s : Shared} {Q : VK} {us : List Value} {vs : List V}
    (M : Mk X.K C f) (F : FnOk X.prog X.w X.K X.mg X.base CX k f fd ps sp) (hr : Room (k + 1) X.A) (hb : Binds X.K fd ps ds) (hd : Vals dvs ds) (hx : PassesAt CX X σ (E σ)) (I : Inv X pins σ H s) (r : Vals vs us)
    (h : ∀ x dx, H x = none → H dx = none → dx ≠ x → sp (.ref x :: (vs ++ dvs)) (upd (upd H dx (.own x)) x (.ins C dx [])) (fun v H2 => v = .non ∧ Q (.ref x) H2) (E σ)) :
    wpAny (model X.prog X.w) X.A (call (.ref C) us) (EP X pins σ Q) X.xe s := by
  have new1 : H s.heap.objs.size = none := I.hok.fresh (Nat.le_refl _)
  have new2 : H (s.heap.objs.size + 1) = none := I.hok.fresh (Nat.le_succ _)
  have hq := h (s.heap.objs.size + 1) s.heap.objs.size new2 new1 (Nat.ne_of_lt (Nat.lt_succ_self _))
  have I2 := Inv.made (C := C) I
  have r2 : Vals (V.ref (s.heap.objs.size + 1) :: (vs ++ dvs)) (Value.ref (s.heap.objs.size + 1) :: (us ++ ds)) := .cons rfl (r.append hd)
  have hl : (Value.ref (s.heap.objs.size + 1) :: us ++ ds).length = ps.length := by
    have q := r2.length
    rw [F.len _ _ _ _ hq] at q
    exact q.symm
  have go := F.run _ X.stack _ _ ⟨Value.ref (s.heap.objs.size + 1) :: us, []⟩ (Value.ref (s.heap.objs.size + 1) :: (us ++ ds)) _ _ (E σ) (hr.make C us []) (I2.env0.make C us []) (hb _ (Value.ref (s.heap.objs.size + 1) :: us) I2.kIn hl) r2 hq
  refine wpAny_call (make_map (f := f) I.kIn M.makes M.init (beq_iff_eq.mp M.fn) (codeAny_mono go fun r s' hq' => ?_))
  match r, hq' with
  | .error e, hq' => exact hx pins _ _ e s' I2 hq'
  | .ok (.ret u), hq' =>
    obtain ⟨v, H', I3, rv, ev, q3⟩ := I2.after hq'
    subst ev
    exact ⟨rv, V.ref (s.heap.objs.size + 1), H', I3, rfl, q3⟩
  | .ok .next, hq' => exact False.elim hq'
  | .ok .brk, hq' => exact False.elim hq'
  | .ok .cont, hq' => exact False.elim hq'
def tMakeS (C : Addr) (sp : Sp) (dvs : List V) (E : L2.St → XK) (u : TA) : TE := fun σ H Q => u σ H fun vs H1 => ∀ x dx, H1 x = none → H1 dx = none → dx ≠ x →
  sp (.ref x :: (vs ++ dvs)) (upd (upd H1 dx (.own x)) x (.ins C dx [])) (fun v H2 => v = .non ∧ Q (.ref x) H2) (E σ)
theorem pe_makeS {CX : CXT} {k : Nat} {C f : Addr} {fd : FuncData} {ps : List Str} {sp : Sp} {E : L2.St → XK} {ds : List Value} {dvs : List V} {x : Str} {p : Pos} {u : TA} (M : Mk X.K C f) (F : FnOk X.prog X.w X.K X.mg X.base CX k f fd ps sp) (hr : Room (k + 1) X.A) (hg : Gl X x) (hm : X.mg x = some (.ref C)) (hb : Binds X.K fd ps ds) (hd : Vals dvs ds) (hx : ∀ σ, PassesAt CX X σ (E σ))
    (ha : PA X (e :: es) u) (hdb : (x == ("__debug__" : Str)) = false) (he : starEach (e :: es) X.env = (false, eval e X.env) :: starEach es X.env) (hpl : (backTo pos (starEach es X.env)).any (·.1) = false) :
    PE X (.Call (.Name x p) (e :: es) [] pos) (tMakeS C sp dvs E u) := by
  refine ⟨fun pins s σ H Q I h => wpAny_Call_Name_kw (ld_glob I hg hm ?_ hdb)⟩
  refine PySem.W.callWith_K (h₀ := X.base) I.ok.mod.kin M.kp (thn (ha.run pos pins s σ H _ I h) fun us s1 hh => ?_) he hpl
  obtain ⟨vs, H1, I1, r, q⟩ := hh
  exact ⟨I1.kIn, run_makeS M F hr hb hd (hx σ) I1 r q⟩
/-- a class of the text: its __init__ and its promise -/
structure FI (P : Program) (w : World) (K : PySem.W.Frag) (mg : Str → Option Value) (base : Heap) (k : Nat) (C : Addr) (n : Nat) (dd : List D) (G : DI) : Prop where
  ok : ∃ (f : Addr) (fd : FuncData) (ps : List Str) (dvs : List V) (ds : List Value), FnOk P w K mg base (L2.CX P w) k f fd ps (spI K n C G) ∧ Binds K fd ps ds ∧ Vals dvs ds ∧ (∀ F, Reps K F dd dvs) ∧ Mk K C f
def dMake (n : Nat) (C : Addr) (dd : List D) (G : DI) (ts : TDs) : TD := fun ρ Q E => ts ρ (fun ds => (ds ++ dd).length + 1 = n ∧ G (ds ++ dd) (fun fs => Q (.ins C fs)) E) E
theorem re_make {k n : Nat} {C : Addr} {dd : List D} {G : DI} {x : Str} {p : Pos} (h : FI X.prog X.w X.K X.mg X.base k C n dd G) (hr : Room (k + 1) X.A) (hm : X.mg x = some (.ref C)) (tk : Takes X W) (ha : RA X W (e :: es) ts)
    (hg : Gl X x := by rfl) (hdb : (x == ("__debug__" : Str)) = false := by decide) (he : starEach (e :: es) X.env = (false, eval e X.env) :: starEach es X.env := by rfl) (hpl : (backTo pos (starEach es X.env)).any (·.1) = false := by rfl) :
    RE X W (.Call (.Name x p) (e :: es) [] pos) (dMake n C dd G ts) := by
  obtain ⟨f, fd, ps, dvs, dsv, F, bn, vl, hd, M⟩ := h.ok
  obtain ⟨ta, h1, h2⟩ := ha.run
  refine ⟨_, pe_makeS M F hr hg hm bn vl (fun σ => passAt tk σ) h1 hdb he hpl, fun ρ σ F H Qd E Q rl xp kk q => h2 ρ σ F H _ E _ rl xp (fun ds vs F1 H1 g1 r1 q1 => ?_) q⟩
  intro x dx nx ndx ne
  refine ⟨ds ++ dd, F1, H1, x, dx, vs ++ dvs, _, E, rfl, rfl, nx, ndx, ne, g1.fh, r1.append (hd F1), q1.1, q1.2, fun fs ws F' H' dx' g hx fx r qd => ⟨rfl, ?_⟩, fun y cls d F' H' g r ex => xp y cls d F' H' (g1.trans g) r ex⟩
  have g2 := g1.trans g
  have gz : Go F H (upd F' x (.ins C dx' ws)) H' := by
    refine ⟨g2.ff.trans (same_upd fx), g2.hh, fun b u q => ?_, fun b z1 z2 => ?_⟩
    · by_cases z : b = x
      · subst z; rw [upd_same] at q; cases q; exact hx
      · rw [upd_ne z] at q; exact g2.fh _ _ q
    · rw [upd_ne (fun z => by rw [z] at z2; exact z2 (g1.hh.free nx))]; exact g2.nn b z1 z2
  exact kk _ _ _ H' gz (.ins upd_same (r.mono (same_upd fx))) qd
end
/-! ### a def keeps its promise -/
def startD (N : List Str) (ds : List D) : Env' := ds.map .sh ++ List.replicate (N.length - ds.length) .no
theorem start_rl {K : PySem.W.Frag} {N : List Str} {ds : List D} {vs : List V} {F H : Hp} (e : Same F H) (r : Reps K F ds vs) : Rl K (startD N ds) (L2.start N vs) F H := by
  have hl := r.length
  have len : (startD N ds).length = (L2.start N vs).length := by
    unfold startD L2.start
    rw [List.length_append, List.length_append, List.length_map, List.length_map, List.length_replicate, List.length_replicate, hl]
  have inv : ∀ {i : Nat} {s : Sl}, (startD N ds)[i]? = some s → s ≠ .no → ∃ d, s = .sh d ∧ ds[i]? = some d ∧ i < ds.length := fun {i s} h ne => by
    unfold startD at h
    by_cases hi : i < ds.length
    · rw [List.getElem?_append_left (by rw [List.length_map]; exact hi), List.getElem?_map] at h
      cases q : ds[i]? with
      | none => rw [q] at h; cases h
      | some d => rw [q] at h; cases h; exact ⟨d, rfl, rfl, hi⟩
    · rw [List.getElem?_append_right (by rw [List.length_map]; omega), List.getElem?_replicate] at h
      split at h
      · cases h; exact absurd rfl ne
      · cases h
  refine ⟨len, e, fun i d h => ?_, fun i es h => ?_, fun i C fs h => ?_, fun i kvs h => ?_, fun i j s t v h1 o1 h2 o2 h3 h4 => ?_⟩
  · obtain ⟨d', q, h', hi⟩ := inv h (fun z => nomatch z)
    cases q
    obtain ⟨v, h1, h2⟩ := r.get h'
    refine ⟨v, ?_, h2⟩
    unfold L2.start
    rw [List.getElem?_append_left (by rw [List.length_map]; omega), List.getElem?_map, h1]
    rfl
  · obtain ⟨d', q, _⟩ := inv h (fun z => nomatch z); cases q
  · obtain ⟨d', q, _⟩ := inv h (fun z => nomatch z); cases q
  · obtain ⟨d', q, _⟩ := inv h (fun z => nomatch z); cases q
  · obtain ⟨d', q, _⟩ := inv h1 (fun z => by subst z; cases o1)
    subst q; cases o1
theorem start_own {N : List Str} {ds : List D} {i : Nat} {s : Sl} (h : (startD N ds)[i]? = some s) : ¬ s.own = true := by
  unfold startD at h
  by_cases hi : i < ds.length
  · rw [List.getElem?_append_left (by rw [List.length_map]; exact hi), List.getElem?_map] at h
    cases q : ds[i]? with
    | none => rw [q] at h; cases h
    | some d => rw [q] at h; cases h; exact Bool.false_ne_true
  · rw [List.getElem?_append_right (by rw [List.length_map]; omega), List.getElem?_replicate] at h
    split at h
    · cases h; exact Bool.false_ne_true
    · cases h
abbrev WF (E : XK) : WX := fun cls dx _ H => E cls dx H
end Dl

/-! The D-layer, part 10: a law's end. -/
namespace Dl
open PySem PySem.Spec
open PyProof.Rows L2
/-- what a law promises: of every script of so many ints, True -/
def gLaw (n : Nat) : DF := fun ds Q _ => ∃ ns : List Int, ds = [.frl (ns.map .int)] ∧ ns.length ≤ n ∧ (∀ z ∈ ns, Builtin.Int.intBits z ≤ 1048576) ∧ Q (.bl true)
theorem reps_ints {K : PySem.W.Frag} {F : Hp} : ∀ ns : List Int, Reps K F (ns.map D.int) (ns.map V.int)
  | [] => .nil
  | n :: ns => .cons (.int n) (reps_ints ns)
theorem law_end {l : PySem.W.OpenLaw} {n k : Nat} {q : Program} {loose : List Str} {XP : (Str → Option Value) → Heap → Prop} {YP : World → Heap → Prop} {d : DefRec} {K : Params → PySem.W.Frag} {x : Str}
    (hn : l.most = some n) (hn2 : n ≤ sizeLine) (hdf : d.params.defaults = []) (hr : Room k callerA) (hY : ∀ (w : World) (h : Heap), YP w h → (K w.params).In h)
    (F : ∀ (w : World) (mg : Str → Option Value) (fa : Addr) (h : Heap), (K w.params).In h → h.Ns mainGlobals mg → mg d.name = some (.ref fa) →
      ∃ fd : FuncData, (∀ (s : Shared) (u : Value), BindsTo s fd ⟨[u], []⟩ [(x, u)]) ∧
        ∀ base : Heap, (K w.params).In base → base.Ns mainGlobals mg → FnOk l.prog w (K w.params) mg base (L2.CX l.prog w) k fa fd [x] (spD (K w.params) 1 (gLaw n))) :
    PySem.W.WalkO q loose XP YP l.row.toRowW d [] (fun f vs => PySem.call f vs) := by
  refine L2.walk_ofB (K := K) (CX := fun w => L2.CX l.prog w) (sp := fun w => spD (K w.params) 1 (gLaw n)) hn hn2 hdf hr hY F (fun w H a ns h1 hb h2 h3 => ?_) fun w H s e s' z => ?_
  · refine ⟨[.frl (ns.map .int)], H, fun d => d = .bl true, fun _ => False, Same.refl _, .cons (.frl h3 (by rw [List.length_map]; omega) (reps_ints ns)) .nil, rfl, ⟨ns, rfl, h1, hb, rfl⟩, fun d v F' H' g r e => ?_, fun _ _ _ _ _ _ _ z => z.elim⟩
    subst e
    cases r
    rfl
  · obtain ⟨_, _, _, _, _, _, _, _, _, _, _, _, z⟩ := z
    exact z.elim
/-- a def as it stands behind the top, whatever its defaults are -/
theorem def_okA {P : Program} {w : World} {K : PySem.W.Frag} {mg : Str → Option Value} {base : Heap} {name qual : Str} {st : Stmt} {f : Addr} {N ps : List Str} {k n : Nat} {G : DF} {tb : DS} {oc dV kV doc pm cdv ct : Value} {od an : Option Addr} {osl : Array (Option Value)}
    (lk : K.lookup f = some ⟨oc, od, .func (PySem.W.fnOf name qual (defArgs st) (defBody st) (defScope st) dV kV doc pm an cdv ct), osl⟩) (hcd : PySem.W.codeIn K cdv qual = true) (S : FnScope N ps (defScope st)) (hn : ps.length = n)
    (body : ∀ (cdv : Value) (A : Around) (outer : List Env) (s : Shared) (H : Hp) (E : XK), Room k (A.deeper (envOfC qual (defScope st) s.heap.objs.size f cdv)) → RSs (cxOf (L2.CX P w) P w K mg base N qual (defScope st) f cdv A outer s H E) (WF E) (defBody st) tb)
    (read : ∀ ds Q E, ds.length = n → G ds Q E → tb ⟨fun _ => Q .non, Q, fun _ => False, fun _ => False, fun _ => E, fun _ => False, fun _ _ => False⟩ (startD N ds)) :
    FnOk P w K mg base (L2.CX P w) (k + 1) f (PySem.W.fnOf name qual (defArgs st) (defBody st) (defScope st) dV kV doc pm an cdv ct) ps (spD K n G) := by
  refine fn_of lk hcd S (fun vs H Q E h => ?_) fun A outer s H vs Q E hr h => ?_
  · obtain ⟨ds, F, Qd, Ed, _, r, hl, _⟩ := h
    rw [r.length, hl, hn]
  · obtain ⟨ts, h1, h2⟩ := (body cdv A outer s H E hr).run
    refine ⟨ts, h1, ?_⟩
    obtain ⟨ds, F1, Qd, Ed, sf, r, hl, g, k1, k2⟩ := h
    have rl := start_rl (N := N) sf r
    refine h2 F1 H (startD N ds) _ F1 H _ ⟨fun _ => Qd .non, Qd, fun _ => False, fun _ => False, fun _ => Ed, fun _ => False, fun _ _ => False⟩ ⟨rl, .refl sf, fun i s p h o hs => ?_⟩ ⟨fun ρ σ F' H' e q => k1 _ _ F' H' e.go .non q, fun x v F' H' g r q => k1 x v F' H' g r q, fun _ _ _ _ _ q => q.elim, fun _ _ _ _ _ q => q.elim, fun ρ σ F' H' e x cls dx F2 H2 g r q => k2 x cls dx F2 H2 (e.go.trans g) r q, fun _ _ _ _ _ _ q => q.elim, fun _ _ _ _ _ _ _ _ _ _ _ _ q => q.elim⟩ (read ds Qd Ed hl g)
    exact absurd o (start_own h)
/-! ### short names of readings (what gen.py prints) -/
def dLstN (ts : TDs) : TDs := fun ρ Q E => ts ρ (fun ds => few ds ∧ Q ds) E
def dOrE (t u : TD) : TD := fun ρ Q E => t ρ Q E ∨ u ρ Q E
end Dl

/-! The D-layer, part 11: more operators. -/
namespace Dl
open PySem PySem.Spec
open PyProof.Rows L2
section
variable {X : Cx} {W : WX} {e a b c : Expr} {t ta tb tc : TD} {pos : Pos}
def dNeg (t : TD) : TD := fun ρ Q E => t ρ (asI fun i => Q (.int (-i))) E
theorem re_neg (ha : RP X W a ta) : RE X W (.UnaryOp .USub a pos) (dNeg ta) := by
  obtain ⟨te, h1, h2⟩ := ha.run
  refine ⟨_, pe_un un_neg h1, fun ρ σ F H Qd E Q rl xp kk q => h2 ρ σ F H _ E _ rl xp (fun d v F1 H1 g pk q1 => ?_) q⟩
  obtain ⟨i, rfl, q2⟩ := asI_inv q1
  cases pk.int
  exact ⟨i, rfl, kk _ _ F1 H1 g (.int _) q2⟩
def kIsNot : KD := fun x y Q => match y with
  | .non => (match x with
    | .non => Q (.bl false)
    | .ob _ => False
    | _ => Q (.bl true))
  | .bl b => (match x with
    | .bl a => Q (.bl (!decide (a = b)))
    | _ => False)
  | _ => False
theorem pk_non {K : PySem.W.Frag} {F H : Hp} {d : D} {v : V} (ho : ∀ w, d ≠ .ob w) (p : Pk K F H d v) : decide (v = .non) = (match d with | .non => true | _ => false) := by
  rcases p with r | ⟨p, vs, ds, rfl, rfl, _⟩
  · cases r <;> first | rfl | exact absurd rfl (ho _)
  · rfl
theorem Pk.non {K : PySem.W.Frag} {F H : Hp} {v : V} (p : Pk K F H .non v) : v = .non := by
  rcases p with r | ⟨p, vs, ds, q, _⟩
  · cases r; rfl
  · cases q
theorem opd_isnot : OpD X (compareOp .IsNot) kIsNot := by
  refine ⟨_, op_notN.or op_isnot_bl, fun x y vx vy F H Qd Q e px py kk q => ?_⟩
  cases y <;> first | exact False.elim q | skip
  · refine .inl ⟨py.non, kk _ _ F H (.refl e) (.bl _) ?_⟩
    rw [pk_non (fun w z => by subst z; exact q) px]
    cases x <;> first | exact q | exact q.elim
  · cases x <;> first | exact False.elim q | skip
    exact .inr ⟨_, _, px.bl, py.bl, kk _ _ F H (.refl e) (.bl _) q⟩
/-- a < b < c -/
def dChain (k k' : KD) (ta tb tc : TD) : TD := fun ρ Q E => ta ρ (fun x => tb ρ (fun y => k x y (asB fun c => ifP c (tc ρ (fun z => k' y z Q) E) (Q (.bl false)))) E) E
theorem rt_chain' {op op' : CmpOp} {k k' : KD} (ho : OpD X (compareOp op) k) (ho' : OpD X (compareOp op') k') (ha : RP X W a ta) (hb : RP X W b tb) (hc : RP X W c tc) (hm : lastMarks [op, op'] [b, c] = false := by with_unfolding_all rfl) :
    RT X W (.Compare a [op, op'] [b, c] pos) (dTest (dChain k k' ta tb tc)) := by
  obtain ⟨r, o1, o2⟩ := ho
  obtain ⟨r', o1', o2'⟩ := ho'
  obtain ⟨te1, a1, a2⟩ := ha.run
  obtain ⟨te2, b1, b2⟩ := hb.run
  obtain ⟨te3, c1, c2⟩ := hc.run
  refine ⟨_, pt_chain o1 o1' a1 b1 c1 hm, fun ρ σ F H Qd E Q rl xp kk q => a2 ρ σ F H _ E _ rl xp (fun x vx F1 H1 g1 px q1 => b2 ρ σ F1 H1 _ E _ (rl.go g1) (xp.go g1) (fun y vy F2 H2 g2 py q2 => ?_) q1) q⟩
  refine o2 x y vx vy F2 H2 _ _ g2.fh (px.go g2) py (fun d v F3 H3 g3 rd q3 => ?_) q2
  obtain ⟨cc, rfl, q4⟩ := asB_inv q3
  cases rd
  have g := (g1.trans g2).trans g3
  refine ⟨cc, rfl, ?_⟩
  cases cc with
  | false =>
    rw [ifP_f] at q4
    exact iteF ⟨false, rfl, kk _ F3 H3 g q4⟩
  | true =>
    rw [ifP_t] at q4
    refine iteT (c2 ρ σ F3 H3 _ E _ (rl.go g) (xp.go g) (fun z vz F4 H4 g4 pz q5 => ?_) q4)
    refine o2' y z vy vz F4 H4 _ _ g4.fh ((py.go g3).go g4) pz (fun d v F5 H5 g5 r5 q6 => ?_) q5
    obtain ⟨c5, rfl, q7⟩ := asB_inv q6
    cases r5
    exact ⟨c5, rfl, kk _ F5 H5 ((g.trans g4).trans g5) q7⟩
end
end Dl

/-! The D-layer, part 12: readings made short. -/
namespace Dl
open PySem PySem.Spec
open PyProof.Rows L2
theorem compR_map {g : DG} {tt : TDb} {te : TD} {ρ : Env'} {Q : List D → Prop} (f : D → D) : ∀ (ds acc : List D),
    (∀ d ∈ ds, ∀ (K1 : D → Prop) (K0 : Prop), K1 (f d) → g d ρ fun ρ2 => tt ρ2 (fun b => ifP b (te ρ2 K1 (fun _ => False)) (K0)) fun _ => False) → Q (acc ++ ds.map f) → compR g tt te ρ Q ds acc
  | [], acc, _, q => by rw [List.map_nil, List.append_nil] at q; exact q
  | d :: ds, acc, h, q => by
    refine h d List.mem_cons_self _ _ (compR_map f ds _ (fun e he => h e (List.mem_cons_of_mem _ he)) ?_)
    rw [List.append_assoc]
    exact q
theorem irg_map : ∀ (n : Nat) (lo : Int), irg lo n = (List.range n).map fun k : Nat => D.int (lo + (k : Int))
  | 0, lo => rfl
  | n + 1, lo => by
    rw [List.range_succ_eq_map, List.map_cons, List.map_map]
    show D.int lo :: irg (lo + 1) n = _
    rw [irg_map n (lo + 1)]
    congr 1
    · rw [show lo + ((0 : Nat) : Int) = lo by omega]
    · apply List.map_congr_left
      intro k _
      show D.int (lo + 1 + k) = D.int (lo + ((k + 1 : Nat) : Int))
      rw [show lo + 1 + (k : Int) = lo + ((k + 1 : Nat) : Int) by omega]
theorem irg0 (n : Nat) : irg 0 n = (List.range n).map fun k : Nat => D.int (k : Int) := by
  rw [irg_map]
  apply List.map_congr_left
  intro k _
  show D.int (0 + (k : Int)) = D.int (k : Int)
  rw [Int.zero_add]
theorem few_of {ds : List D} (h : ds.length ≤ 16777216) : few ds := h
theorem atI_nn {α : Type} {xs : List α} {k : Nat} : atI xs (k : Int) = xs[k]? := by
  unfold atI ixN
  rw [if_pos (by omega)]
  by_cases h : ((k : Int) < (xs.length : Int))
  · rw [if_pos h]; rfl
  · rw [if_neg h]
    show none = _
    rw [List.getElem?_eq_none (by omega)]
theorem mulOk_r {i j : Int} (h1 : -(2 ^ 64) < j) (h2 : j < 2 ^ 64) : mulOk i j := .of_right (intBits_le_64 h1 h2)
theorem mulOk_l {i j : Int} (h1 : -(2 ^ 64) < i) (h2 : i < 2 ^ 64) : mulOk i j := .of_left (intBits_le_64 h1 h2)
theorem mulOk_le {i j : Int} {m n : Nat} (h1 : Builtin.Int.intBits i ≤ m) (h2 : Builtin.Int.intBits j ≤ n) (h : m + n ≤ 134217728) : mulOk i j := IntMulOk.of_le h1 h2 h
theorem divOk_small {j : Int} (h0 : j ≠ 0) (h : j.natAbs < 2 ^ 8000) : divOk j := ⟨h0, Nat.lt_of_lt_of_le (PySem.Flt.log2_lt_of (by decide) h) (by decide)⟩
end Dl
namespace Dl
open PySem PySem.Spec
open PyProof.Rows L2
/-! ### lists of ints by a function -/
def tabD (m : Nat) (F : Nat → Int) : List D := (List.range m).map fun j => D.int (F j)
theorem tab_len (m : Nat) (F : Nat → Int) : (tabD m F).length = m := by unfold tabD; rw [List.length_map, List.length_range]
theorem tab_get {m : Nat} {F : Nat → Int} {j : Nat} (h : j < m) : (tabD m F)[j]? = some (.int (F j)) := by
  unfold tabD
  rw [List.getElem?_map, List.getElem?_range h]
  rfl
theorem tab_congr {m : Nat} {F G : Nat → Int} (h : ∀ j, j < m → F j = G j) : tabD m F = tabD m G := by
  unfold tabD
  exact List.map_congr_left fun j hj => by rw [h j (List.mem_range.mp hj)]
theorem tab_rep (m : Nat) (x : Int) : (List.replicate m [D.int x]).flatten = tabD m fun _ => x := by
  unfold tabD
  induction m with
  | zero => rfl
  | succ n ih => rw [List.range_succ, List.map_append, ← ih, List.replicate_succ', List.flatten_append]; rfl
theorem tab_list (ns : List Int) : ns.map D.int = tabD ns.length fun j => ns.getD j 0 := by
  refine List.ext_getElem? fun i => ?_
  by_cases hi : i < ns.length
  · rw [tab_get hi, List.getElem?_map, List.getElem?_eq_getElem hi, List.getD_eq_getElem?_getD, List.getElem?_eq_getElem hi]
    rfl
  · rw [List.getElem?_eq_none (by rw [List.length_map]; omega), List.getElem?_eq_none (by rw [tab_len]; omega)]
theorem tab_snoc (m : Nat) (F : Nat → Int) (x : Int) : tabD m F ++ [.int x] = tabD (m + 1) (fun j => if j = m then x else F j) := by
  unfold tabD
  rw [List.range_succ, List.map_append]
  congr 1
  · exact List.map_congr_left fun j hj => by
      show D.int (F j) = D.int (if j = m then x else F j)
      rw [if_neg (Nat.ne_of_lt (List.mem_range.mp hj))]
  · simp
/-! ### plain data -/
mutual
def D.okk : Nat → D → Bool
  | _, .non => true
  | _, .bl _ => true
  | _, .int _ => true
  | _, .str x => PyData.strOk x
  | 0, _ => false
  | n + 1, .tup ds => D.okks n ds
  | n + 1, .lst ds => D.okks n ds
  | n + 1, .frl ds => D.okks n ds
  | _, _ => false
def D.okks : Nat → List D → Bool
  | _, [] => true
  | n, d :: ds => D.okk n d && D.okks n ds
end
theorem okks_all {n : Nat} : ∀ {ds : List D}, (∀ d ∈ ds, d.okk n = true) → D.okks n ds = true
  | [], _ => by unfold D.okks; rfl
  | d :: ds, h => by
    unfold D.okks
    rw [h d List.mem_cons_self, okks_all fun e he => h e (List.mem_cons_of_mem _ he)]
    rfl
mutual
theorem okk_plain : ∀ (n : Nat) (d : D), d.okk n = true → d.flat = true ∧ d.py.canLay0 = true ∧ d.py.depth ≤ n
  | n, .non, _ => by unfold D.flat D.py PyData.canLay0 PyData.depth; exact ⟨rfl, rfl, Nat.zero_le _⟩
  | n, .bl _, _ => by unfold D.flat D.py PyData.canLay0 PyData.depth; exact ⟨rfl, rfl, Nat.zero_le _⟩
  | n, .int _, _ => by unfold D.flat D.py PyData.canLay0 PyData.depth; exact ⟨rfl, rfl, Nat.zero_le _⟩
  | n, .str x, h => by
    unfold D.flat D.py PyData.canLay0 PyData.depth
    have h' : PyData.strOk x = true := by cases n <;> (unfold D.okk at h; exact h)
    exact ⟨rfl, h', Nat.zero_le _⟩
  | 0, .tup ds, h => by unfold D.okk at h; cases h
  | 0, .lst ds, h => by unfold D.okk at h; cases h
  | 0, .frl ds, h => by unfold D.okk at h; cases h
  | n + 1, .tup ds, h => by
    unfold D.okk at h
    obtain ⟨h1, h2, h3⟩ := okks_plain n ds h
    unfold D.flat D.py PyData.canLay0 PyData.depth
    exact ⟨h1, h2, Nat.succ_le_succ h3⟩
  | n + 1, .lst ds, h => by
    unfold D.okk at h
    obtain ⟨h1, h2, h3⟩ := okks_plain n ds h
    unfold D.flat D.py PyData.canLay0 PyData.depth
    exact ⟨h1, h2, Nat.succ_le_succ h3⟩
  | n + 1, .frl ds, h => by
    unfold D.okk at h
    obtain ⟨h1, h2, h3⟩ := okks_plain n ds h
    unfold D.flat D.py PyData.canLay0 PyData.depth
    exact ⟨h1, h2, Nat.succ_le_succ h3⟩
  | n, .ty _, h => by cases n <;> (unfold D.okk at h; cases h)
  | n, .cls _, h => by cases n <;> (unfold D.okk at h; cases h)
  | n, .ins _ _, h => by cases n <;> (unfold D.okk at h; cases h)
  | n, .dic _, h => by cases n <;> (unfold D.okk at h; cases h)
  | n, .ob _, h => by cases n <;> (unfold D.okk at h; cases h)
theorem okks_plain : ∀ (n : Nat) (ds : List D), D.okks n ds = true → D.flats ds = true ∧ PyData.canLayAll0 (D.pys ds) = true ∧ PyData.depthAll (D.pys ds) ≤ n
  | n, [], _ => by unfold D.flats D.pys PyData.canLayAll0 PyData.depthAll; exact ⟨rfl, rfl, Nat.zero_le _⟩
  | n, d :: ds, h => by
    unfold D.okks at h
    rw [Bool.and_eq_true] at h
    obtain ⟨h1, h2, h3⟩ := okk_plain n d h.1
    obtain ⟨k1, k2, k3⟩ := okks_plain n ds h.2
    unfold D.flats D.pys PyData.canLayAll0 PyData.depthAll
    rw [h1, h2, k1, k2]
    exact ⟨rfl, rfl, Nat.max_le.mpr ⟨h3, k3⟩⟩
end
theorem plain_of {d : D} (h : d.okk 64 = true) : plain d := by
  obtain ⟨h1, h2, h3⟩ := okk_plain 64 d h
  exact ⟨h1, by unfold SeqAt.shaped; rw [h2, decide_eq_true h3]; rfl⟩
theorem okk_tab (n m : Nat) (F : Nat → Int) : D.okks n (tabD m F) = true := okks_all fun d hd => by
  obtain ⟨j, _, rfl⟩ := List.mem_map.mp hd
  cases n <;> rfl
mutual
theorem eqv_self : ∀ (n : Nat) (d : D), d.okk n = true → PyData.eqv d.py d.py = true
  | n, .non, _ => by unfold D.py PyData.eqv; rfl
  | n, .bl _, _ => by unfold D.py PyData.eqv; exact beq_self_eq_true _
  | n, .int _, _ => by unfold D.py PyData.eqv; exact beq_self_eq_true _
  | n, .str x, h => by unfold D.py PyData.eqv; exact beq_self_eq_true _
  | 0, .tup ds, h => by unfold D.okk at h; cases h
  | 0, .lst ds, h => by unfold D.okk at h; cases h
  | 0, .frl ds, h => by unfold D.okk at h; cases h
  | n + 1, .tup ds, h => by unfold D.okk at h; unfold D.py PyData.eqv; exact eqvs_self n ds h
  | n + 1, .lst ds, h => by unfold D.okk at h; unfold D.py PyData.eqv; exact eqvs_self n ds h
  | n + 1, .frl ds, h => by unfold D.okk at h; unfold D.py PyData.eqv; exact eqvs_self n ds h
  | n, .ty _, h => by cases n <;> (unfold D.okk at h; cases h)
  | n, .cls _, h => by cases n <;> (unfold D.okk at h; cases h)
  | n, .ins _ _, h => by cases n <;> (unfold D.okk at h; cases h)
  | n, .dic _, h => by cases n <;> (unfold D.okk at h; cases h)
  | n, .ob _, h => by cases n <;> (unfold D.okk at h; cases h)
theorem eqvs_self : ∀ (n : Nat) (ds : List D), D.okks n ds = true → PyData.eqvAll (D.pys ds) (D.pys ds) = true
  | n, [], _ => by unfold D.pys PyData.eqvAll; rfl
  | n, d :: ds, h => by
    unfold D.okks at h
    rw [Bool.and_eq_true] at h
    unfold D.pys PyData.eqvAll
    rw [eqv_self n d h.1, eqvs_self n ds h.2]
    rfl
end
/-! ### isinstance of ints and the like -/
end Dl
namespace Dl
/-! ### what dsimp may use of lists -/
section
variable {α β : Type}
theorem q_map_cons (f : α → β) (a : α) (l : List α) : (a :: l).map f = f a :: l.map f := rfl
theorem q_map_nil (f : α → β) : ([] : List α).map f = [] := rfl
theorem q_app_cons (a : α) (l m : List α) : (a :: l) ++ m = a :: (l ++ m) := rfl
theorem q_app_nil (m : List α) : [] ++ m = m := rfl
theorem q_len_cons (a : α) (l : List α) : (a :: l).length = l.length + 1 := rfl
theorem q_len_nil : ([] : List α).length = 0 := rfl
theorem q_rep_0 (a : α) : List.replicate 0 a = [] := rfl
theorem q_rep_s (n : Nat) (a : α) : List.replicate (n + 1) a = a :: List.replicate n a := rfl
theorem q_get_0 (a : α) (l : List α) : (a :: l)[0]? = some a := rfl
theorem q_get_s (a : α) (l : List α) (n : Nat) : (a :: l)[n + 1]? = l[n]? := rfl
theorem q_set_0 (a b : α) (l : List α) : (a :: l).set 0 b = b :: l := rfl
theorem q_set_s (a b : α) (l : List α) (n : Nat) : (a :: l).set (n + 1) b = a :: l.set n b := rfl
end
end Dl
namespace Dl
open PySem PySem.Spec
open PyProof.Rows L2
theorem cut_map {α β : Type} (f : α → β) (xs : List α) (lo hi : Option Int) : cut (xs.map f) lo hi = (cut xs lo hi).map f := by
  unfold cut
  rw [List.length_map, List.map_take, List.map_drop]
section
variable {g : DG} {tt : TDb} {te : TD} {ρ : Env'} {Q : List D → Prop}
theorem compL_map (f : D → D) (ds acc : List D)
    (h : ∀ d ∈ ds, ∀ (K1 : D → Prop) (K0 : Prop), K1 (f d) → g d ρ fun ρ2 => tt ρ2 (fun b => ifP b (te ρ2 K1 (fun _ => False)) (K0)) fun _ => False) (q : Q (acc ++ ds.map f)) : compL g tt te ρ Q ds acc := ⟨compR_map f ds acc h q⟩
end
/-- a comprehension over a range -/
theorem compL_rng {g : DG} {tt : TDb} {te : TD} {ρ : Env'} {Q : List D → Prop} (n : Nat) (f : Nat → D)
    (h : ∀ k : Nat, k < n → ∀ (K1 : D → Prop) (K0 : Prop), K1 (f k) → g (.int (k : Int)) ρ fun ρ2 => tt ρ2 (fun b => ifP b (te ρ2 K1 (fun _ => False)) (K0)) fun _ => False)
    (q : Q ((List.range n).map f)) : compL g tt te ρ Q (irg 0 n) [] := by
  rw [irg0]
  refine compL_map (fun d => match d with | .int k => f k.toNat | d => d) _ _ (fun d hd K1 K0 hK => ?_) ?_
  · obtain ⟨k, hk, rfl⟩ := List.mem_map.mp hd
    exact h k (List.mem_range.mp hk) K1 K0 hK
  · rw [List.nil_append, List.map_map]
    exact q
end Dl

/-! The D-layer, part 13: loops by one turn. -/
namespace Dl
open PySem PySem.Spec
open PyProof.Rows L2
section
variable {g : DG} {tb : DS} {d : DE} {x : D} {xs : List D} {ρ : Env'}
theorem lp_nil (h : d.nx ρ) : loopD g tb d [] ρ := ⟨h⟩
theorem lp_cons (h : g x ρ fun ρ2 => tb { d with nx := loopD g tb d xs, ct := loopD g tb d xs, bk := d.nx } ρ2) : loopD g tb d (x :: xs) ρ := by
  rw [loopD_eq] at h
  exact ⟨h⟩
theorem lp_r0 {i : Int} (h : d.nx ρ) : loopD g tb d (irg i 0) ρ := ⟨h⟩
theorem lp_rs {i : Int} {n : Nat} (h : g (.int i) ρ fun ρ2 => tb { d with nx := loopD g tb d (irg (i + 1) n), ct := loopD g tb d (irg (i + 1) n), bk := d.nx } ρ2) : loopD g tb d (irg i (n + 1)) ρ := by
  rw [loopD_eq] at h
  exact ⟨h⟩
end
end Dl

section
open Dl
local macro_rules | `(tactic| walk_at "rd") => `(tactic| ((conv => whnf); (try dsimp only [startD, wipeD, q_map_cons, q_map_nil, q_app_cons, q_app_nil, q_len_cons, q_len_nil, q_rep_0, q_rep_s, q_get_0, q_get_s, q_set_0, q_set_s, ifP_t, ifP_f, Nat.reduceAdd, Nat.reduceSub, Int.reduceToNat, Int.reducePow, Int.reduceAdd, Int.reduceMul])))
local macro_rules | `(tactic| walk_at "go") => `(tactic| ((try walk_at "rd"); (repeat (refine And.intro (by walk_at "sd") ?_; try walk_at "rd"))))
/-! The D-layer, part 14: numbers, fractions. -/
namespace Dl
open PySem PySem.Spec
open PyProof.Rows L2
local macro_rules | `(tactic| walk_at "sd") => `(tactic| first | with_reducible assumption | omega | with_reducible rfl | decide | exact few_of (by decide) | exact divOk_small (by decide) (by decide +kernel) | exact mulOk_r (by omega) (by omega) | exact mulOk_l (by omega) (by omega) | exact few_of (by simp only [List.length_append, List.length_map, List.length_cons, List.length_nil, tab_len, List.length_replicate]; omega))
def bnd (k : Nat) (z : Int) : Prop := z.natAbs < 2 ^ k
def shr (t b : Int) : Int := if b < 0 then -(Int.gcd t b : Int) else (Int.gcd t b : Int)
def fr (t b : Int) : D := .tup [.int (t.fdiv (shr t b)), .int (b.fdiv (shr t b))]
abbrev pr (t b : Int) : D := .tup [.int t, .int b]
def isWh : D → Option Bool
  | .int _ => some true
  | .bl _ => some false
  | .non => some false
  | .str _ => some false
  | .tup _ => some false
  | .lst _ => some false
  | .dic _ => some false
  | _ => none
abbrev dE (Q E : EQ) : DE := ⟨fun _ => Q .non, Q, fun _ => False, fun _ => False, fun _ => E, fun _ => False, fun _ _ => False⟩
theorem bits_of {k : Nat} {z : Int} (h : bnd k z) : Builtin.Int.intBits z ≤ k := intBits_le_iff.mpr h
theorem bnd_mono {j k : Nat} {z : Int} (h : bnd j z) (hk : j ≤ k) : bnd k z := Nat.lt_of_lt_of_le h (Nat.pow_le_pow_right (by decide) hk)
theorem bnd_mul {j k : Nat} {x y : Int} (h1 : bnd j x) (h2 : bnd k y) : bnd (j + k) (x * y) := intBits_le_iff.mp (Nat.le_trans (intBits_mul_le (bits_of h1) (bits_of h2)) (Nat.le_refl _))
theorem mul_of {j k : Nat} {x y : Int} (h1 : bnd j x) (h2 : bnd k y) (h : j + k ≤ 134217728) : mulOk x y := mulOk_le (bits_of h1) (bits_of h2) h
theorem div_of {z : Int} (h0 : z ≠ 0) (h : bnd 8000 z) : divOk z := divOk_small h0 h
theorem two (x : Int) : x.fmod 2 = 0 ∨ x.fmod 2 = 1 := by
  have h1 := Int.fmod_nonneg_of_pos x (show (0 : Int) < 2 by decide)
  have h2 := Int.fmod_lt_of_pos x (show (0 : Int) < 2 by decide)
  omega
theorem fdiv_le {z s : Int} (hs : 1 ≤ s) : (z.fdiv s).natAbs ≤ z.natAbs := by
  have h := Int.mul_fdiv_add_fmod z s
  have h1 := Int.fmod_nonneg_of_pos z (show 0 < s by omega)
  have h2 := Int.fmod_lt_of_pos z (show 0 < s by omega)
  generalize z.fdiv s = u at h ⊢
  generalize z.fmod s = r at h h1 h2
  by_cases hu : 0 ≤ u
  · have : u ≤ s * u := by
      have := Int.mul_le_mul_of_nonneg_right hs hu
      omega
    omega
  · have : s * u ≤ u := by
      have := Int.mul_le_mul_of_nonpos_right hs (show u ≤ 0 by omega)
      omega
    have h3 : s * (u + 1) = s * u + s := by rw [Int.mul_add, Int.mul_one]
    have : s * (u + 1) ≤ u + 1 := by
      have := Int.mul_le_mul_of_nonpos_right hs (show u + 1 ≤ 0 by omega)
      omega
    omega
theorem fr_pos {t b : Int} (hb : 0 < b) : 0 < b.fdiv (shr t b) := by
  have h1 : (Int.gcd t b : Int) ∣ b := Int.gcd_dvd_right ..
  have h2 : Int.gcd t b ≠ 0 := fun e => by have := (Int.gcd_eq_zero_iff.mp e).2; omega
  obtain ⟨c, hc⟩ := h1
  unfold shr
  rw [if_neg (by omega)]
  have : b.fdiv (Int.gcd t b : Int) = c := by
    conv => lhs; arg 1; rw [hc]
    rw [Int.mul_comm]
    exact Int.mul_fdiv_cancel _ (by omega)
  rw [this]
  apply Int.pos_of_mul_pos_right (a := (Int.gcd t b : Int)) 
  · rw [← hc]; exact hb
  · omega
theorem shr_ge {t b : Int} (hb : 0 < b) : 1 ≤ shr t b := by
  have h2 : Int.gcd t b ≠ 0 := fun e => by have := (Int.gcd_eq_zero_iff.mp e).2; omega
  unfold shr
  rw [if_neg (by omega)]
  omega
theorem bnd_le {k : Nat} {x y : Int} (h : x.natAbs ≤ y.natAbs) (hy : bnd k y) : bnd k x := Nat.lt_of_le_of_lt h hy
theorem pick (l : List D) (n x : Int) (hn : n = (l.length : Int)) (h0 : 0 < n) : ∃ y, y ∈ l ∧ atI l (x.fmod n) = some y := by
  have h1 := Int.fmod_nonneg_of_pos x h0
  have h2 := Int.fmod_lt_of_pos x h0
  obtain ⟨k, hk⟩ := Int.eq_ofNat_of_zero_le h1
  rw [hk] at h2 ⊢
  have hl : k < l.length := by omega
  exact ⟨l[k], List.getElem_mem hl, by rw [atI_nn, List.getElem?_eq_getElem hl]⟩
theorem bnd_of {k : Nat} {z : Int} (h1 : -(2 ^ k) < z) (h2 : z < 2 ^ k) : bnd k z := by
  unfold bnd
  have e : ((2 ^ k : Nat) : Int) = 2 ^ k := by simp
  omega
end Dl

/-! The D-layer, part 15: the defs of fractions, read once. -/
namespace Dl
open PySem PySem.Spec
open PyProof.Rows L2
local macro_rules | `(tactic| walk_at "sd") => `(tactic| first | with_reducible assumption | omega | with_reducible rfl | decide | exact few_of (by decide) | exact divOk_small (by decide) (by decide +kernel) | exact mulOk_r (by omega) (by omega) | exact mulOk_l (by omega) (by omega) | exact few_of (by simp only [List.length_append, List.length_map, List.length_cons, List.length_nil, tab_len, List.length_replicate]; omega))
abbrev g_is_whole : DF := fun ds Q _ => ∃ d b, ds = [d] ∧ isWh d = some b ∧ Q (.bl b)
abbrev N_is_whole : List Str := ["thing"]
def tb_is_whole (K : PySem.W.Frag) : DS :=
  (dRet (dAndV (dCB (kIsi K) (dCons (dVarP 0) (dCons (dC (.ty "int")) dNil))) (dNotV (dCB (kIsi K) (dCons (dVarP 0) (dCons (dC (.ty "bool")) dNil))))))
theorem rd_is_whole {K : PySem.W.Frag} (ds : List D) (Q E : EQ) (_ : ds.length = 1) (h : g_is_whole ds Q E) : tb_is_whole K (dE Q E) (startD N_is_whole ds) := by
  obtain ⟨d, b, rfl, hd, q⟩ := h
  unfold tb_is_whole dE
  cases d <;> first
    | (cases hd; walk_at "rd"; exact q)
    | cases hd
abbrev g__law_cell_at : DF := fun ds Q _ => ∃ (ns : List Int) (k : Nat), ds = [.frl (ns.map .int), .int k] ∧ Q (.int (ns.getD k 0))
abbrev N__law_cell_at : List Str := ["_law_script", "_law_k"]
def tb__law_cell_at : DS :=
  (dSq (dIf (dTest (dOp kLt (dVarP 1) (dCB kLen (dCons (dVarP 0) dNil)))) (dRet (dOp kIx (dVarP 0) (dVarP 1))) dNext) (dRet (dC (.int 0))))
theorem rd__law_cell_at (ds : List D) (Q E : EQ) (_ : ds.length = 2) (h : g__law_cell_at ds Q E) : tb__law_cell_at (dE Q E) (startD N__law_cell_at ds) := by
  obtain ⟨ns, k, rfl, q⟩ := h
  unfold tb__law_cell_at dE
  walk_at "rd"
  rw [List.length_map]
  rw [List.getD_eq_getElem?_getD] at q
  by_cases hk : k < ns.length
  · rw [decide_eq_true (by omega)]
    walk_at "rd"
    rw [atI_nn, List.getElem?_map, List.getElem?_eq_getElem hk]
    rw [List.getElem?_eq_getElem hk] at q
    exact q
  · rw [decide_eq_false (by omega)]
    walk_at "rd"
    rw [List.getElem?_eq_none (by omega)] at q
    exact q
end Dl

/-! The D-layer, part 16: fractions are equal where their cross products are. -/
namespace Dl
open PySem PySem.Spec
open PyProof.Rows L2
theorem fr_parts (t : Int) {b : Int} (hb : 0 < b) : ∃ s u v : Int, 0 < s ∧ 0 < v ∧ t = s * u ∧ b = s * v ∧ Nat.gcd u.natAbs v.natAbs = 1 ∧ t.fdiv (shr t b) = u ∧ b.fdiv (shr t b) = v := by
  have hg : 0 < Int.gcd t b := Nat.pos_of_ne_zero fun e => by have := (Int.gcd_eq_zero_iff.mp e).2; omega
  obtain ⟨u, hu⟩ : (Int.gcd t b : Int) ∣ t := Int.gcd_dvd_left ..
  obtain ⟨v, hv⟩ : (Int.gcd t b : Int) ∣ b := Int.gcd_dvd_right ..
  have hs : shr t b = (Int.gcd t b : Int) := by unfold shr; rw [if_neg (by omega)]
  have e1 : t.fdiv (Int.gcd t b : Int) = u := by
    conv => lhs; arg 1; rw [hu]
    exact Int.mul_fdiv_cancel_left _ (by omega)
  have e2 : b.fdiv (Int.gcd t b : Int) = v := by
    conv => lhs; arg 1; rw [hv]
    exact Int.mul_fdiv_cancel_left _ (by omega)
  have v0 : 0 < v := by
    have := fr_pos (t := t) hb
    rw [hs, e2] at this
    exact this
  refine ⟨_, u, v, by omega, v0, hu, hv, ?_, by rw [hs, e1], by rw [hs, e2]⟩
  have a1 : t.natAbs = Int.gcd t b * u.natAbs := by
    have := congrArg Int.natAbs hu
    rw [Int.natAbs_mul] at this
    exact this
  have a2 : b.natAbs = Int.gcd t b * v.natAbs := by
    have := congrArg Int.natAbs hv
    rw [Int.natAbs_mul] at this
    exact this
  have h1 : Int.gcd t b = Int.gcd t b * Nat.gcd u.natAbs v.natAbs := by
    rw [← Nat.gcd_mul_left, ← a1, ← a2]
    rfl
  have := Nat.eq_of_mul_eq_mul_left hg ((Nat.mul_one _).trans h1)
  exact this.symm
theorem fr_eq {t b t' b' : Int} (hb : 0 < b) (hb' : 0 < b') (h : t * b' = t' * b) : fr t b = fr t' b' := by
  obtain ⟨s, u, v, s0, v0, e1, e2, c, d1, d2⟩ := fr_parts t hb
  obtain ⟨s', u', v', s0', v0', e1', e2', c', d1', d2'⟩ := fr_parts t' hb'
  have h2 : u * v' = u' * v := by
    have : (s * s') * (u * v') = (s * s') * (u' * v) := by
      rw [e1, e2, e1', e2'] at h
      have a1 : s * u * (s' * v') = s * s' * (u * v') := by ac_rfl
      have a2 : s' * u' * (s * v) = s * s' * (u' * v) := by ac_rfl
      rw [a1, a2] at h
      exact h
    exact Int.eq_of_mul_eq_mul_left (Int.ne_of_gt (Int.mul_pos s0 s0')) this
  have h3 : u.natAbs * v'.natAbs = u'.natAbs * v.natAbs := by rw [← Int.natAbs_mul, ← Int.natAbs_mul, h2]
  have k1 : v.natAbs ∣ v'.natAbs := Nat.Coprime.dvd_of_dvd_mul_left (show Nat.Coprime v.natAbs u.natAbs by rw [Nat.coprime_comm]; exact c) ⟨u'.natAbs, by rw [h3, Nat.mul_comm]⟩
  have k2 : v'.natAbs ∣ v.natAbs := Nat.Coprime.dvd_of_dvd_mul_left (show Nat.Coprime v'.natAbs u'.natAbs by rw [Nat.coprime_comm]; exact c') ⟨u.natAbs, by rw [← h3, Nat.mul_comm]⟩
  have k3 := Nat.dvd_antisymm k1 k2
  have k4 : v = v' := by omega
  subst k4
  have k5 : u = u' := Int.eq_of_mul_eq_mul_right (Int.ne_of_gt v0) h2
  unfold fr
  rw [d1, d2, d1', d2', k5]
theorem bnd_add {k : Nat} {x y : Int} (h1 : bnd k x) (h2 : bnd k y) : bnd (k + 1) (x + y) := by
  unfold bnd at *
  rw [Nat.pow_succ]
  omega
/-- sum and bottom of rows along a point -/
def wsF : List Int → List (Int × Int) → Int → Int → Int × Int
  | r :: rs, p :: ps, T, B => wsF rs ps (T * p.2 + r * p.1 * B) (B * p.2)
  | _, _, T, B => (T, B)
def prD (p : Int × Int) : D := pr p.1 p.2
/-- points whose numbers are not great -/
def okP (k : Nat) (ps : List (Int × Int)) : Prop := ∀ p ∈ ps, 0 < p.2 ∧ bnd k p.1 ∧ bnd k p.2
end Dl

/-! The D-layer, part 17: rows along points; the laws' tools. -/
namespace Dl
open PySem PySem.Spec
open PyProof.Rows L2
local macro_rules | `(tactic| walk_at "sd") => `(tactic| first | with_reducible assumption | omega | with_reducible rfl | decide | exact few_of (by decide) | exact divOk_small (by decide) (by decide +kernel) | exact mulOk_r (by omega) (by omega) | exact mulOk_l (by omega) (by omega) | exact few_of (by simp only [List.length_append, List.length_map, List.length_cons, List.length_nil, tab_len, List.length_replicate]; omega))
theorem bnd_one {k : Nat} (h : k ≠ 0) : bnd k 1 := by unfold bnd; exact Nat.one_lt_two_pow h
theorem bnd_zero {k : Nat} : bnd k 0 := by unfold bnd; exact Nat.pow_pos (by decide)
end Dl

/-! The D-layer, part 18: rows that hold; the laws' tools. -/
namespace Dl
open PySem PySem.Spec
open PyProof.Rows L2
local macro_rules | `(tactic| walk_at "sd") => `(tactic| first | with_reducible assumption | omega | with_reducible rfl | decide | exact few_of (by decide) | exact divOk_small (by decide) (by decide +kernel) | exact mulOk_r (by omega) (by omega) | exact mulOk_l (by omega) (by omega) | exact few_of (by simp only [List.length_append, List.length_map, List.length_cons, List.length_nil, tab_len, List.length_replicate]; omega))
/-- whether a row holds at a point -/
def hld (rs : List Int) (b : Int) (ps : List (Int × Int)) : Bool := decide ((wsF rs ps 0 1).1 ≤ b * (wsF rs ps 0 1).2)
end Dl

/-! The D-layer, part 19: rooms; the laws' tools. -/
namespace Dl
open PySem PySem.Spec
open PyProof.Rows L2
local macro_rules | `(tactic| walk_at "sd") => `(tactic| first | with_reducible assumption | omega | with_reducible rfl | decide | exact few_of (by decide) | exact divOk_small (by decide) (by decide +kernel) | exact mulOk_r (by omega) (by omega) | exact mulOk_l (by omega) (by omega) | exact few_of (by simp only [List.length_append, List.length_map, List.length_cons, List.length_nil, tab_len, List.length_replicate]; omega))
theorem compL_gen {α : Type} {g : DG} {tt : TDb} {te : TD} {ρ : Env'} {Q : List D → Prop} (f : α → D) (R : α → Prop) (ds : List D)
    (h : ∀ d ∈ ds, ∀ (K1 : D → Prop) (K0 : Prop), (∀ a, R a → K1 (f a)) → g d ρ fun ρ2 => tt ρ2 (fun b => ifP b (te ρ2 K1 (fun _ => False)) K0) fun _ => False)
    (q : ∀ as : List α, as.length = ds.length → (∀ a ∈ as, R a) → Q (as.map f)) : compL g tt te ρ Q ds [] := by
  have go : ∀ (ds acc : List D), (∀ d ∈ ds, ∀ (K1 : D → Prop) (K0 : Prop), (∀ a, R a → K1 (f a)) → g d ρ fun ρ2 => tt ρ2 (fun b => ifP b (te ρ2 K1 (fun _ => False)) K0) fun _ => False) →
      (∀ as : List α, as.length = ds.length → (∀ a ∈ as, R a) → Q (acc ++ as.map f)) → compR g tt te ρ Q ds acc := by
    intro ds
    induction ds with
    | nil =>
      intro acc _ q
      have := q [] rfl (fun y hy => by cases hy)
      rw [List.map_nil, List.append_nil] at this
      exact this
    | cons d ds ih =>
      intro acc h q
      refine h d List.mem_cons_self _ _ fun y hy => ih _ (fun e he => h e (List.mem_cons_of_mem _ he)) fun as hl hp => ?_
      rw [List.append_assoc]
      exact q (y :: as) (by rw [List.length_cons, List.length_cons, hl]) fun z hz => by
        rcases List.mem_cons.mp hz with rfl | hz
        · exact hy
        · exact hp z hz
  exact ⟨go ds [] h fun as hl hp => q as hl hp⟩
theorem sIx_m1 (n : Nat) : HT.sIx n n (some (-1)) = n - 1 := by
  show (if ((-1 : Int)) < 0 then ((-1 : Int) + (n : Int)).toNat else min (-1 : Int).toNat n) = n - 1
  rw [if_pos (by decide)]
  omega
theorem cut_init {α : Type} (xs : List α) (x : α) : cut (xs ++ [x]) none (some (-1)) = xs := by
  unfold cut
  rw [sIx_m1, HT.sIx_none, List.length_append, List.length_singleton, Nat.add_sub_cancel, Nat.sub_zero, List.drop_zero]
  exact List.take_left' rfl
theorem cut_take {α : Type} (xs : List α) (k : Nat) : cut xs none (some (k : Int)) = xs.take k := by
  unfold cut
  rw [HT.sIx_nat, HT.sIx_none, Nat.sub_zero, List.drop_zero]
  by_cases h : k ≤ xs.length
  · rw [Nat.min_eq_left h]
  · rw [Nat.min_eq_right (by omega), List.take_of_length_le (Nat.le_refl _), List.take_of_length_le (by omega)]
abbrev g__law_stream : DF := fun ds Q _ => ∃ (c : Int) (m : Nat), ds = [.int c, .int m] ∧ m ≤ 1000 ∧ ∀ X : Nat → Int, (∀ j, 0 ≤ X j ∧ X j < 10 ^ 45) → Q (.lst (tabD m X))
abbrev N__law_stream : List Str := ["_law_cell", "_law_many", "_law_found", "_law_rest", "_law_k", "_law_number_here"]
def tb__law_stream : DS :=
  (dSq (dOwn 2 (dLstN dNil)) (dSq (dIf (dTest (dOp kGe (dVarP 0) (dOp kPow (dC (.int 10)) (dC (.int 30))))) (dSq (dSet 3 (dOp kSub (dVarP 0) (dOp kPow (dC (.int 10)) (dC (.int 30))))) (dSq (dFor (dRng1 (dVarP 1)) (gNm 4) (dSq (dApp 2 (dOp kMod (dVarP 3) (dOp kPow (dC (.int 10)) (dC (.int 45))))) (dSet 3 (dOp kDiv (dVarP 3) (dOp kPow (dC (.int 10)) (dC (.int 45))))))) (dFrz 2 (dRet (dVar 2))))) dNext) (dSq (dSet 5 (dOp kAdd (dOp kMod (dVarP 0) (dOp kAdd (dOp kPow (dC (.int 10)) (dC (.int 18))) (dC (.int 9)))) (dC (.int 48271)))) (dSq (dFor (dRng1 (dOp kAdd (dVarP 1) (dC (.int 2)))) (gNm 4) (dSq (dSet 5 (dOp kMod (dOp kAdd (dOp kAdd (dOp kMul (dVarP 5) (dVarP 5)) (dOp kMul (dC (.int 48271)) (dVarP 5))) (dVarP 4)) (dOp kAdd (dOp kPow (dC (.int 10)) (dC (.int 18))) (dC (.int 9))))) (dApp 2 (dVar 5)))) (dRet (dSl (dVarP 2) (dPart (dC (.int 2))) dNoPart))))))
theorem stream_a {d : DE} {a b : Sl} {M : Nat} : ∀ (t k i : Nat) (F : Nat → Int) (rest : Int) (s4 : Sl), M ≤ 1000 → k + t = M → (∀ j, 0 ≤ F j ∧ F j < 10 ^ 45) →
    (∀ (F : Nat → Int) (s3 s4 : Sl), (∀ j, 0 ≤ F j ∧ F j < 10 ^ 45) → d.nx [a, b, .ow (tabD M F), s3, s4, .no]) →
    loopD (gNm 4) (dSq (dApp 2 (dOp kMod (dVarP 3) (dOp kPow (dC (.int 10)) (dC (.int 45))))) (dSet 3 (dOp kDiv (dVarP 3) (dOp kPow (dC (.int 10)) (dC (.int 45)))))) d (irg i t) [a, b, .ow (tabD k F), .sh (.int rest), s4, .no]
  | 0, k, i, F, rest, s4, hM, hk, hF, h => by
    have e : k = M := by omega
    subst e
    exact lp_r0 (h F _ _ hF)
  | t + 1, k, i, F, rest, s4, hM, hk, hF, h => by
    refine lp_rs ?_
    walk_at "rd"
    walk_at "go"
    rw [tab_snoc]
    walk_at "go"
    refine stream_a t (k + 1) (i + 1) _ _ _ hM (by omega) (fun j => ?_) h
    by_cases hj : j = k
    · rw [if_pos hj]
      exact ⟨Int.fmod_nonneg_of_pos _ (by omega), Int.fmod_lt_of_pos _ (by omega)⟩
    · rw [if_neg hj]; exact hF j

theorem stream_b {d : DE} {a b s3 : Sl} {M : Nat} : ∀ (t k i : Nat) (F : Nat → Int) (x : Int) (s4 : Sl), M ≤ 2000 → i + t ≤ 2000 → k + t = M → (0 ≤ x ∧ x < 2 * 10 ^ 18) → (∀ j, 0 ≤ F j ∧ F j < 10 ^ 45) →
    (∀ (F : Nat → Int) (s4 s5 : Sl), (∀ j, 0 ≤ F j ∧ F j < 10 ^ 45) → d.nx [a, b, .ow (tabD M F), s3, s4, s5]) →
    loopD (gNm 4) (dSq (dSet 5 (dOp kMod (dOp kAdd (dOp kAdd (dOp kMul (dVarP 5) (dVarP 5)) (dOp kMul (dC (.int 48271)) (dVarP 5))) (dVarP 4)) (dOp kAdd (dOp kPow (dC (.int 10)) (dC (.int 18))) (dC (.int 9))))) (dApp 2 (dVar 5))) d (irg i t) [a, b, .ow (tabD k F), s3, s4, .sh (.int x)]
  | 0, k, i, F, x, s4, hM, hi, hk, hx, hF, h => by
    have e : k = M := by omega
    subst e
    exact lp_r0 (h F _ _ hF)
  | t + 1, k, i, F, x, s4, hM, hi, hk, hx, hF, h => by
    refine lp_rs ?_
    walk_at "rd"
    have hb : bnd 64 x := by
      have : (2 : Int) * 10 ^ 18 ≤ 2 ^ 64 := by decide
      unfold bnd
      have h2 : ((x.natAbs : Nat) : Int) < ((2 ^ 64 : Nat) : Int) := by
        rw [Int.natAbs_of_nonneg hx.1]
        have : ((2 ^ 64 : Nat) : Int) = 2 ^ 64 := by decide
        omega
      omega
    have xx := mulOk_le (bits_of hb) (bits_of hb) (by omega)
    walk_at "go"
    rw [tab_snoc]
    walk_at "go"
    have hp : (0 : Int) < 1000000000000000009 := by omega
    have m1 := Int.fmod_nonneg_of_pos (x * x + 48271 * x + i) hp
    have m2 := Int.fmod_lt_of_pos (x * x + 48271 * x + i) hp
    refine stream_b t (k + 1) (i + 1) _ _ _ hM (by omega) (by omega) ⟨m1, by omega⟩ (fun j => ?_) h
    by_cases hj : j = k
    · rw [if_pos hj]; exact ⟨m1, by omega⟩
    · rw [if_neg hj]; exact hF j
theorem cut_2 (m : Nat) (F : Nat → Int) : cut (tabD (m + 2) F) (some 2) none = tabD m fun j => F (j + 2) := by
  unfold cut
  rw [tab_len, HT.sIx_none, show (2 : Int) = ((2 : Nat) : Int) from rfl, HT.sIx_nat, show min 2 (m + 2) = 2 by omega, show m + 2 - 2 = m by omega]
  refine List.ext_getElem? fun i => ?_
  by_cases hi : i < m
  · rw [tab_get hi, List.getElem?_take_of_lt hi, List.getElem?_drop, tab_get (by omega), Nat.add_comm]
  · rw [List.getElem?_eq_none (by rw [List.length_take, List.length_drop, tab_len]; omega), List.getElem?_eq_none (by rw [tab_len]; omega)]
theorem rd__law_stream (ds : List D) (Q E : EQ) (_ : ds.length = 2) (h : g__law_stream ds Q E) : tb__law_stream (dE Q E) (startD N__law_stream ds) := by
  obtain ⟨c, m, rfl, hm, q⟩ := h
  unfold tb__law_stream dE
  walk_at "go"
  have t0 : ∀ G : Nat → Int, ([] : List D) = tabD 0 G := fun _ => rfl
  by_cases hc : (1000000000000000000000000000000 : Int) ≤ c
  · rw [decide_eq_true hc]
    walk_at "go"
    rw [t0 (fun _ => 0), Int.toNat_natCast]
    refine stream_a (M := m) m 0 0 _ _ _ (by omega) (by omega) (fun _ => ⟨by omega, by omega⟩) fun F s3 s4 hF => ?_
    walk_at "rd"
    exact q F hF
  · rw [decide_eq_false hc]
    walk_at "go"
    rw [t0 (fun _ => 0), show ((m : Int) + 2).toNat = m + 2 by omega]
    have hp : (0 : Int) < 1000000000000000009 := by omega
    have m1 := Int.fmod_nonneg_of_pos c hp
    have m2 := Int.fmod_lt_of_pos c hp
    refine stream_b (M := m + 2) (m + 2) 0 0 _ _ _ (by omega) (by omega) (by omega) ⟨by omega, by omega⟩ (fun _ => ⟨by omega, by omega⟩) fun F s4 s5 hF => ?_
    walk_at "rd"
    rw [cut_2]
    exact q _ fun j => hF (j + 2)
end Dl

/-! The D-layer, part 20: the laws' own sum along a point. -/
namespace Dl
open PySem PySem.Spec
open PyProof.Rows L2
local macro_rules | `(tactic| walk_at "sd") => `(tactic| first | with_reducible assumption | omega | with_reducible rfl | decide | exact few_of (by decide) | exact divOk_small (by decide) (by decide +kernel) | exact mulOk_r (by omega) (by omega) | exact mulOk_l (by omega) (by omega) | exact few_of (by simp only [List.length_append, List.length_map, List.length_cons, List.length_nil, tab_len, List.length_replicate]; omega))
end Dl

/-! The D-layer, part 21: defs that hand back lists which are the caller's own. -/
namespace Dl
open PySem PySem.Spec
open PyProof.Rows L2
section
variable {X : Cx} {W : WX} {st : Stmt} {rest : List Stmt} {e a b c tg : Expr} {es : List Expr} {t ta tb tc : TD} {ts : TDs} {u v : DS} {pos : Pos}
/-- return [..] -/
def dRetN1 (t : TDs) : DS := fun d ρ => t ρ d.rt1 (d.ex ρ)
theorem rs_retN1 {tn : TDs} (h : RN X W e tn) : RS X W (.Return (some e) pos) (dRetN1 tn) := by
  obtain ⟨te, h1, h2⟩ := h.run
  exact ⟨_, ps_ret h1, fun F0 H0 ρ σ F H D d en c q => h2 ρ σ F H _ _ _ en.rl (c.ex ρ σ F H en) (fun ds p vs F1 H1 g np hp fp z r q => c.rt1 ds p F1 H1 (en.go.trans g) ⟨en.go.hh.free np, fp, vs, hp, z, r⟩ q) q⟩
end
/-! ### their promises -/
abbrev DF1 := List D → (List D → Prop) → EQ → Prop
def spO1 (K : PySem.W.Frag) (n : Nat) (G : DF1) : Sp := fun vs H Q E => ∃ (ds : List D) (F : Hp) (Q1 : List D → Prop) (Ed : EQ), Same F H ∧ Reps K F ds vs ∧ ds.length = n ∧ G ds Q1 Ed ∧
  (∀ ds p F' H', Go F H F' H' → OwL K F' H' H ds p → Q1 ds → Q (.ref p) H') ∧ (∀ x cls dx F' H', Go F H F' H' → XRep K F' H' x cls dx → Ed x → E cls dx H')
structure FO (P : Program) (w : World) (K : PySem.W.Frag) (mg : Str → Option Value) (base : Heap) (k : Nat) (f : Addr) (n : Nat) (sp : Sp) : Prop where
  ok : ∃ (fd : FuncData) (ps : List Str), FnOk P w K mg base (L2.CX P w) k f fd ps sp ∧ Binds K fd ps []
  kp : PySem.W.keepIn K (.ref f) = true
abbrev FD1 (P : Program) (w : World) (K : PySem.W.Frag) (mg : Str → Option Value) (base : Heap) (k : Nat) (f : Addr) (n : Nat) (dd : List D) (G : DF1) : Prop := FO P w K mg base k f n (spO1 K n G)
abbrev dE1 (Q : List D → Prop) (E : EQ) : DE := ⟨fun _ => False, fun _ => False, fun _ => False, fun _ => False, fun _ => E, Q, fun _ _ => False⟩
theorem def_ok1 {P : Program} {w : World} {K : PySem.W.Frag} {mg : Str → Option Value} {base : Heap} {name qual : Str} {st : Stmt} {f : Addr} {N ps : List Str} {k n : Nat} {G : DF1} {tb : DS} {oc dV kV doc pm cdv ct : Value} {od an : Option Addr} {osl : Array (Option Value)}
    (lk : K.lookup f = some ⟨oc, od, .func (PySem.W.fnOf name qual (defArgs st) (defBody st) (defScope st) dV kV doc pm an cdv ct), osl⟩) (hcd : PySem.W.codeIn K cdv qual = true) (S : FnScope N ps (defScope st)) (hn : ps.length = n)
    (body : ∀ (cdv : Value) (A : Around) (outer : List Env) (s : Shared) (H : Hp) (E : XK), Room k (A.deeper (envOfC qual (defScope st) s.heap.objs.size f cdv)) → RSs (cxOf (L2.CX P w) P w K mg base N qual (defScope st) f cdv A outer s H E) (WF E) (defBody st) tb)
    (read : ∀ ds Q E, ds.length = n → G ds Q E → tb (dE1 Q E) (startD N ds)) :
    FnOk P w K mg base (L2.CX P w) (k + 1) f (PySem.W.fnOf name qual (defArgs st) (defBody st) (defScope st) dV kV doc pm an cdv ct) ps (spO1 K n G) := by
  refine fn_of lk hcd S (fun vs H Q E h => ?_) fun A outer s H vs Q E hr h => ?_
  · obtain ⟨ds, F, Qd, Ed, _, r, hl, _⟩ := h
    rw [r.length, hl, hn]
  · obtain ⟨ts, h1, h2⟩ := (body cdv A outer s H E hr).run
    refine ⟨ts, h1, ?_⟩
    obtain ⟨ds, F1, Qd, Ed, sf, r, hl, g, k1, k2⟩ := h
    have rl := start_rl (N := N) sf r
    refine h2 F1 H (startD N ds) _ F1 H _ (dE1 Qd Ed) ⟨rl, .refl sf, fun i s p h o hs => ?_⟩ ⟨fun _ _ _ _ _ q => q.elim, fun _ _ _ _ _ _ q => q.elim, fun _ _ _ _ _ q => q.elim, fun _ _ _ _ _ q => q.elim, fun ρ σ F' H' e x cls dx F2 H2 g r q => k2 x cls dx F2 H2 (e.go.trans g) r q, fun ds p F' H' g o q => k1 ds p F' H' g o q, fun _ _ _ _ _ _ _ _ _ _ _ _ q => q.elim⟩ (read ds Qd Ed hl g)
    exact absurd o (start_own h)
/-! ### their calls -/
section
variable {X : Cx} {W : WX} {e : Expr} {es : List Expr} {ts : TDs} {pos : Pos}
def dCallN (n : Nat) (G : DF1) (ts : TDs) : TDs := fun ρ Q E => ts ρ (fun ds => ds.length = n ∧ G ds Q E) E
theorem rn_call {k n : Nat} {f : Addr} {G : DF1} {x : Str} {p : Pos} (h : FD1 X.prog X.w X.K X.mg X.base k f n [] G) (hr : Room k X.A) (hm : X.mg x = some (.ref f)) (tk : Takes X W) (ha : RA X W (e :: es) ts)
    (hg : Gl X x := by rfl) (hdb : (x == ("__debug__" : Str)) = false := by decide) (he : starEach (e :: es) X.env = (false, eval e X.env) :: starEach es X.env := by rfl) (hpl : (backTo pos (starEach es X.env)).any (·.1) = false := by rfl) :
    RN X W (.Call (.Name x p) (e :: es) [] pos) (dCallN n G ts) := by
  obtain ⟨fd, ps, F, bn⟩ := h.ok
  obtain ⟨ta, h1, h2⟩ := ha.run
  refine ⟨_, pe_callSD F hr hg hm h.kp bn .nil (fun σ => passAt tk σ) h1 hdb he hpl, fun ρ σ F H Qd E Q rl xp kk q => ?_⟩
  refine h2 ρ σ F H _ E _ rl xp (fun ds vs F1 H1 g1 r1 q1 => ?_) q
  rw [List.append_nil]
  exact ⟨ds, F1, Qd, E, g1.fh, r1, q1.1, q1.2, fun ds p F' H' g o qd => by
    obtain ⟨o1, o2, vs, o3, o4, o5⟩ := o
    exact kk ds p vs F' H' (g1.trans g) (g1.hh.free o1) o3 o2 o4 o5 qd, fun x cls dx F' H' g r ex => xp x cls dx F' H' (g1.trans g) r ex⟩
end
end Dl

/-! The D-layer, part 22: lists of one's own, lent for a call. -/
namespace Dl
open PySem PySem.Spec
open PyProof.Rows L2
/-- what a def may know while it is lent the lists at ls -/
def lendF (F H : Hp) (ls : List Addr) : Hp := fun b => match F b with
  | some o => some o
  | none => if b ∈ ls then H b else none
/-- and what is known behind it -/
def backF (F F' : Hp) (ls : List Addr) : Hp := fun b => match F b with
  | some o => some o
  | none => if b ∈ ls then none else F' b
mutual
def D.tupy : D → Bool
  | .non => true
  | .bl _ => true
  | .int _ => true
  | .str _ => true
  | .tup ds => D.tupys ds
  | _ => false
def D.tupys : List D → Bool
  | [] => true
  | d :: ds => d.tupy && D.tupys ds
end
theorem back_seq {F H F' : Hp} {ls : List Addr} {a : Addr} {xs : List V} (hl : ∀ b ∈ ls, ∃ xs, H b = some (.lst xs)) (ff : Same (lendF F H ls) F') (h : F' a = some (.tup xs)) : backF F F' ls a = some (.tup xs) := by
  · skip
    have key : backF F F' ls a = F' a ∨ ∃ ys, F' a = some (.lst ys) := by
      unfold backF
      cases hb : F a with
      | some o => exact .inl (by dsimp only; exact ((ff a o (by unfold lendF; rw [hb])).symm))
      | none =>
        dsimp only
        by_cases hv : a ∈ ls
        · obtain ⟨ys, hy⟩ := hl a hv
          exact .inr ⟨ys, ff a _ (by unfold lendF; rw [hb]; dsimp only; rw [if_pos hv]; exact hy)⟩
        · rw [if_neg hv]; exact .inl rfl
    rcases key with k | ⟨ys, k⟩
    · rw [k]; exact h
    · rw [k] at h; cases h
mutual
theorem back_rep {K : PySem.W.Frag} {F H F' : Hp} {ls : List Addr} (hl : ∀ b ∈ ls, ∃ xs, H b = some (.lst xs)) (ff : Same (lendF F H ls) F') : ∀ {d : D} {v : V}, d.tupy = true → Rep K F' d v → Rep K (backF F F' ls) d v
  | _, _, _, .non => .non
  | _, _, _, .bl b => .bl b
  | _, _, _, .int i => .int i
  | _, _, _, .str x => .str x
  | _, _, h, .tup s l r => .tup (back_seq hl ff s) l (back_reps hl ff (by unfold D.tupy at h; exact h) r)
  | _, _, h, .ty _ => by unfold D.tupy at h; cases h
  | _, _, h, .cls _ => by unfold D.tupy at h; cases h
  | _, _, h, .ob _ => by unfold D.tupy at h; cases h
  | _, _, h, .lst .. => by unfold D.tupy at h; cases h
  | _, _, h, .frl .. => by unfold D.tupy at h; cases h
  | _, _, h, .ins .. => by unfold D.tupy at h; cases h
  | _, _, h, .dic .. => by unfold D.tupy at h; cases h
theorem back_reps {K : PySem.W.Frag} {F H F' : Hp} {ls : List Addr} (hl : ∀ b ∈ ls, ∃ xs, H b = some (.lst xs)) (ff : Same (lendF F H ls) F') : ∀ {ds : List D} {vs : List V}, D.tupys ds = true → Reps K F' ds vs → Reps K (backF F F' ls) ds vs
  | _, _, _, .nil => .nil
  | _, _, h, .cons r rs => by
    unfold D.tupys at h
    rw [Bool.and_eq_true] at h
    exact .cons (back_rep hl ff h.1 r) (back_reps hl ff h.2 rs)
end
section
variable {X : Cx} {W : WX} {e : Expr} {es : List Expr} {ts : TDs} {pos : Pos}
end
end Dl

/-! The D-layer, part 23: a + b as a list of one's own; tuples of ints compared; rows added. -/
namespace Dl
open PySem PySem.Spec
open PyProof.Rows L2
section
variable {X : Cx} {W : WX}
def kAddN : D → D → (List D → Prop) → Prop := fun x y Q => match x, y with
  | .lst a, .lst b => few (a ++ b) ∧ Q (a ++ b)
  | _, _ => False
def dAddN (ta tb : TD) : TDs := fun ρ Q E => ta ρ (fun x => tb ρ (fun y => kAddN x y Q) E) E
theorem rn_addL {a b : Expr} {ta tb : TD} {pos : Pos} (ha : RP X W a ta) (hb : RP X W b tb) : RN X W (.BinOp a .Add b pos) (dAddN ta tb) := by
  obtain ⟨te1, a1, a2⟩ := ha.run
  obtain ⟨te2, b1, b2⟩ := hb.run
  refine ⟨_, pe_op op_cat a1 b1, fun ρ σ F H Qd E Q rl xp kk q => a2 ρ σ F H _ E _ rl xp (fun x vx F1 H1 g1 px q1 => b2 ρ σ F1 H1 _ E _ (rl.go g1) (xp.go g1) (fun y vy F2 H2 g2 py q2 => ?_) q1) q⟩
  cases x <;> first | exact False.elim q2 | skip
  cases y <;> first | exact False.elim q2 | skip
  obtain ⟨p, vs, rfl, h1, l1, r1⟩ := (px.go g2).lst g2.fh
  obtain ⟨p', vs', rfl, h1', l1', r1'⟩ := py.lst g2.fh
  have rr := r1.append r1'
  have zz := few_line rr q2.1
  refine ⟨p, p', vs, vs', rfl, rfl, h1, h1', by rw [← List.length_append]; exact zz, fun l nl => ?_⟩
  exact kk _ l _ F2 _ ((g1.trans g2).trans (go_new g2.fh nl)) (g1.hh.free (g2.hh.free nl)) upd_same (g2.fh.free nl) zz rr q2.2
end
end Dl

/-! The D-layer, part 24: x[i] = [..]; x[i][j] = e, the inner list new. -/
namespace Dl
open PySem PySem.Spec
open PyProof.Rows L2
section
variable {X : Cx} {W : WX} {rest : List Stmt} {e a1 a2 a3 c : Expr} {t1 t2 t3 te : TD} {tn : TDs} {u : DS}
end
end Dl

/-! The D-layer, part 25: loops and comprehensions by place; rows brought to steps. -/
namespace Dl
open PySem PySem.Spec
open PyProof.Rows L2
section
variable {g : DG} {tb : DS} {d : DE}
theorem loop_ix (I : Nat → Env' → Prop) (ds : List D) (h0 : ∀ ρ, I ds.length ρ → d.nx ρ)
    (hs : ∀ k x ρ, ds[k]? = some x → I k ρ → ∀ N : Env' → Prop, (∀ ρ', I (k + 1) ρ' → N ρ') → g x ρ fun ρ2 => tb { d with nx := N, ct := N, bk := d.nx } ρ2) {ρ : Env'} (hi : I 0 ρ) : loopD g tb d ds ρ := by
  refine loop_by (fun l ρ => ∃ k, k ≤ ds.length ∧ l = ds.drop k ∧ I k ρ) (fun ρ ⟨k, hk, e, h⟩ => ?_) (fun x xs ρ ⟨k, hk, e, h⟩ N hN => ?_) _ _ ⟨0, Nat.zero_le _, rfl, hi⟩
  · have : k = ds.length := by have := congrArg List.length e; rw [List.length_drop, List.length_nil] at this; omega
    subst this
    exact h0 ρ h
  · have hk' : k < ds.length := by have := congrArg List.length e; rw [List.length_drop, List.length_cons] at this; omega
    rw [List.drop_eq_getElem_cons hk'] at e
    injection e with e1 e2
    exact hs k x ρ (by rw [List.getElem?_eq_getElem hk', e1]) h N fun ρ' h' => hN ρ' ⟨k + 1, hk', e2, h'⟩
end
section
variable {g : DG} {tt : TDb} {te : TD} {ρ : Env'} {Q : List D → Prop}
end
theorem rng_get {α : Type} {m : Nat} {f : Nat → α} {k : Nat} (h : k < m) : ((List.range m).map f)[k]? = some (f k) := by
  rw [List.getElem?_map, List.getElem?_range h]; rfl
theorem rng_inv {α : Type} {m : Nat} {f : Nat → α} {k : Nat} {x : α} (h : ((List.range m).map f)[k]? = some x) : k < m ∧ x = f k := by
  have hl := (List.getElem?_eq_some_iff.mp h).1
  rw [List.length_map, List.length_range] at hl
  rw [rng_get hl] at h
  exact ⟨hl, (Option.some.inj h).symm⟩
theorem rng_len {α : Type} {m : Nat} {f : Nat → α} : ((List.range m).map f).length = m := by rw [List.length_map, List.length_range]
theorem rng_congr {α : Type} {m : Nat} {f g : Nat → α} (h : ∀ k, k < m → f k = g k) : (List.range m).map f = (List.range m).map g := List.map_congr_left fun k hk => h k (List.mem_range.mp hk)
theorem tab_inv {m : Nat} {F : Nat → Int} {k : Nat} {x : D} (h : (tabD m F)[k]? = some x) : k < m ∧ x = .int (F k) := rng_inv h
theorem pairs_rng {m : Nat} {f g : Nat → D} : pairs ((List.range m).map f) ((List.range m).map g) = (List.range m).map fun j => .tup [f j, g j] := by
  refine List.ext_getElem? fun i => ?_
  by_cases hi : i < m
  · rw [rng_get hi, pairs_get (rng_get hi) (rng_get hi)]
  · rw [List.getElem?_eq_none (by rw [pairs_len, rng_len, rng_len]; omega), List.getElem?_eq_none (by rw [rng_len]; omega)]
/-! ### rows: what divides all, lowest form, sums -/
def gcdL (r : Nat → Int) : Nat → Int
  | 0 => 0
  | m + 1 => (Int.gcd (r m) (gcdL r m) : Int)
def lowR (m : Nat) (r : Nat → Int) : Nat → Int := fun j => if gcdL r m = 0 then r j else (r j).fdiv (gcdL r m)
def dot (r y : Nat → Int) : Nat → Int
  | 0 => 0
  | n + 1 => dot r y n + r n * y n
theorem gcdL_nn (r : Nat → Int) : ∀ m, 0 ≤ gcdL r m
  | 0 => Int.le_refl _
  | m + 1 => Int.natCast_nonneg _
theorem gcdL_dvd (r : Nat → Int) : ∀ m j, j < m → gcdL r m ∣ r j
  | m + 1, j, h => by
    by_cases e : j = m
    · subst e; exact Int.gcd_dvd_left ..
    · exact Int.dvd_trans (Int.gcd_dvd_right ..) (gcdL_dvd r m j (by omega))
/-- the lowest form, times what divides all, is the row -/
theorem lowR_eq (m : Nat) (r : Nat → Int) : ∃ g : Int, 0 < g ∧ ∀ j, j < m → r j = g * lowR m r j := by
  unfold lowR
  by_cases h : gcdL r m = 0
  · exact ⟨1, by decide, fun j hj => by rw [if_pos h, Int.one_mul]⟩
  · refine ⟨gcdL r m, by have := gcdL_nn r m; omega, fun j hj => ?_⟩
    rw [if_neg h]
    obtain ⟨c, hc⟩ := gcdL_dvd r m j hj
    rw [hc, Int.mul_fdiv_cancel_left _ h]
theorem dot_congr {r s y : Nat → Int} : ∀ {n : Nat}, (∀ j, j < n → r j = s j) → dot r y n = dot s y n
  | 0, _ => rfl
  | n + 1, h => by unfold dot; rw [dot_congr (fun j hj => h j (by omega)), h n (by omega)]
theorem dot_mul (a : Int) (r y : Nat → Int) : ∀ n, dot (fun j => a * r j) y n = a * dot r y n
  | 0 => by unfold dot; rw [Int.mul_zero]
  | n + 1 => by unfold dot; rw [dot_mul a r y n]; grind
theorem dot_sub (a b : Int) (r s y : Nat → Int) : ∀ n, dot (fun j => r j * a - s j * b) y n = a * dot r y n - b * dot s y n
  | 0 => by unfold dot; omega
  | n + 1 => by unfold dot; rw [dot_sub a b r s y n]; grind
theorem dot_low (m : Nat) (r y : Nat → Int) : dot (lowR m r) y m = 0 ↔ dot r y m = 0 := by
  obtain ⟨g, g0, h⟩ := lowR_eq m r
  rw [dot_congr (n := m) (s := fun j => g * lowR m r j) (r := r) h, dot_mul]
  constructor
  · intro e; rw [e, Int.mul_zero]
  · intro e; rcases Int.mul_eq_zero.mp e with z | z
    · omega
    · exact z
theorem low_zero {m : Nat} {r : Nat → Int} {j : Nat} (hj : j < m) : lowR m r j = 0 ↔ r j = 0 := by
  obtain ⟨g, g0, h⟩ := lowR_eq m r
  rw [h j hj]
  constructor
  · intro e; rw [e, Int.mul_zero]
  · intro e; rcases Int.mul_eq_zero.mp e with z | z
    · omega
    · exact z
/-! ### elimination -/
abbrev Mat := Nat → Nat → Int
def crR (w : Nat) (r s : Nat → Int) (p : Nat) : Nat → Int := lowR w (fun j => r j * s p - s j * r p)
def fwN (R : Mat) (p : Nat) : Nat → Nat → Option Nat
  | 0, _ => none
  | t + 1, a => if R a p = 0 then fwN R p t (a + 1) else some a
def swR (R : Mat) (a b : Nat) : Mat := fun k => if k = b then R a else if k = a then R b else R k
def elR (w m : Nat) (R : Mat) (a p : Nat) : Mat := fun k => if k < m ∧ k ≠ a ∧ R k p ≠ 0 then crR w (R k) (R a) p else R k
def stepG (w m : Nat) (s : Mat × List Nat) (p : Nat) : Mat × List Nat :=
  match fwN s.1 p (m - s.2.length) s.2.length with
  | none => s
  | some k => (elR w m (swR s.1 s.2.length k) s.2.length p, s.2 ++ [p])
def redG (w m : Nat) (R : Mat) : Nat → Mat × List Nat
  | 0 => (fun k => lowR w (R k), [])
  | c + 1 => stepG w m (redG w m R c) c
theorem fwN_some {R : Mat} {p : Nat} : ∀ {t a k : Nat}, fwN R p t a = some k → a ≤ k ∧ k < a + t ∧ R k p ≠ 0
  | 0, a, k, h => by cases h
  | t + 1, a, k, h => by
    unfold fwN at h
    by_cases e : R a p = 0
    · rw [if_pos e] at h
      obtain ⟨h1, h2, h3⟩ := fwN_some h
      exact ⟨by omega, by omega, h3⟩
    · rw [if_neg e] at h
      cases h
      exact ⟨Nat.le_refl _, by omega, e⟩
theorem fwN_none {R : Mat} {p : Nat} : ∀ {t a : Nat}, fwN R p t a = none → ∀ k, a ≤ k → k < a + t → R k p = 0
  | 0, a, h, k, h1, h2 => by omega
  | t + 1, a, h, k, h1, h2 => by
    unfold fwN at h
    by_cases e : R a p = 0
    · rw [if_pos e] at h
      by_cases ek : k = a
      · subst ek; exact e
      · exact fwN_none h k (by omega) (by omega)
    · rw [if_neg e] at h
      cases h
/-- where a vector is put to nought by all rows -/
def Kn (w m : Nat) (R : Mat) (y : Nat → Int) : Prop := ∀ k, k < m → dot (R k) y w = 0
theorem kn_sw {w m : Nat} {R : Mat} {a b : Nat} (ha : a < m) (hb : b < m) (y : Nat → Int) : Kn w m (swR R a b) y ↔ Kn w m R y := by
  have e : ∀ k, swR R a b k = R (if k = b then a else if k = a then b else k) := fun k => by unfold swR; split; rfl; split <;> rfl
  constructor
  · intro h k hk
    by_cases k1 : k = a
    · have := h b hb; rw [e, if_pos rfl] at this; rw [k1]; exact this
    · by_cases k2 : k = b
      · have := h a ha
        rw [e] at this
        by_cases z : a = b
        · subst z; exact absurd k2 k1
        · rw [if_neg z, if_pos rfl] at this; rw [k2]; exact this
      · have := h k hk; rw [e, if_neg k2, if_neg k1] at this; exact this
  · intro h k hk
    rw [e]
    refine h _ ?_
    split
    · exact ha
    · split
      · exact hb
      · exact hk
theorem kn_el {w m : Nat} {R : Mat} {a p : Nat} (ha : a < m) (hp : R a p ≠ 0) (y : Nat → Int) : Kn w m (elR w m R a p) y ↔ Kn w m R y := by
  have key : ∀ k, dot (R a) y w = 0 → (dot (crR w (R k) (R a) p) y w = 0 ↔ dot (R k) y w = 0) := fun k h0 => by
    unfold crR
    rw [dot_low, dot_sub, h0, Int.mul_zero, Int.sub_zero]
    constructor
    · intro e; rcases Int.mul_eq_zero.mp e with z | z
      · exact absurd z hp
      · exact z
    · intro e; rw [e, Int.mul_zero]
  have ea : elR w m R a p a = R a := by unfold elR; rw [if_neg (fun z => z.2.1 rfl)]
  constructor
  · intro h k hk
    have h0 := h a ha
    rw [ea] at h0
    by_cases c : k < m ∧ k ≠ a ∧ R k p ≠ 0
    · have := h k hk
      unfold elR at this
      rw [if_pos c] at this
      exact (key k h0).mp this
    · have := h k hk
      unfold elR at this
      rw [if_neg c] at this
      exact this
  · intro h k hk
    unfold elR
    split
    · exact (key k (h a ha)).mpr (h k hk)
    · exact h k hk
/-- what stands after c columns -/
structure Ech (w m c : Nat) (R0 R : Mat) (ps : List Nat) : Prop where
  len : ps.length ≤ m
  lt : ∀ q ∈ ps, q < c
  inc : ps.Pairwise (· < ·)
  piv : ∀ (i q : Nat), ps[i]? = some q → R i q ≠ 0 ∧ ∀ k, k < m → k ≠ i → R k q = 0
  out : ∀ q, q < c → q ∉ ps → ∀ k, ps.length ≤ k → k < m → R k q = 0
  kn : ∀ y, Kn w m R y ↔ Kn w m R0 y
def eb (b : Nat) : Nat → Nat
  | 0 => b
  | n + 1 => 2 * eb b n + 1
theorem bnd_sub' {k : Nat} {x y : Int} (h1 : bnd k x) (h2 : bnd k y) : bnd (k + 1) (x - y) := by
  unfold bnd at *
  rw [Nat.pow_succ]
  omega
theorem red_ech {w m : Nat} {R0 : Mat} : ∀ {c : Nat}, c ≤ w → Ech w m c R0 (redG w m R0 c).1 (redG w m R0 c).2
  | 0, _ => ⟨Nat.zero_le _, (fun q h => nomatch h), List.Pairwise.nil, (fun i q h => nomatch h), (fun q h => absurd h (Nat.not_lt_zero q)), fun y =>
      ⟨fun h k hk => (dot_low w _ y).mp (h k hk), fun h k hk => (dot_low w _ y).mpr (h k hk)⟩⟩
  | c + 1, hc => by
    have ih := red_ech (w := w) (m := m) (R0 := R0) (c := c) (by omega)
    unfold redG stepG
    generalize redG w m R0 c = s at ih ⊢
    obtain ⟨R, ps⟩ := s
    dsimp only at ih ⊢
    cases hf : fwN R c (m - ps.length) ps.length with
    | none =>
      dsimp only
      refine ⟨ih.len, fun q h => Nat.lt_succ_of_lt (ih.lt q h), ih.inc, ih.piv, fun q hq hn k h1 h2 => ?_, ih.kn⟩
      by_cases e : q = c
      · subst e; exact fwN_none hf k h1 (by have := ih.len; omega)
      · exact ih.out q (by omega) hn k h1 h2
    | some k0 =>
      dsimp only
      obtain ⟨f1, f2, f3⟩ := fwN_some hf
      have hk0 : k0 < m := by have := ih.len; omega
      have ha : ps.length < m := by omega
      generalize hS : swR R ps.length k0 = S
      have sa : S ps.length = R k0 := by
        rw [← hS]; unfold swR
        by_cases e : ps.length = k0
        · rw [if_pos e, e]
        · rw [if_neg e, if_pos rfl]
      have so : ∀ k, k < ps.length → S k = R k := fun k hk => by rw [← hS]; unfold swR; rw [if_neg (by omega), if_neg (by omega)]
      have sg : ∀ k, ps.length ≤ k → k < m → ∃ k', ps.length ≤ k' ∧ k' < m ∧ S k = R k' := fun k h1 h2 => by
        rw [← hS]; unfold swR
        by_cases e1 : k = k0
        · rw [if_pos e1]; exact ⟨_, Nat.le_refl _, ha, rfl⟩
        · rw [if_neg e1]
          by_cases e2 : k = ps.length
          · rw [if_pos e2]; exact ⟨_, f1, hk0, rfl⟩
          · rw [if_neg e2]; exact ⟨k, h1, h2, rfl⟩
      have sp : S ps.length c ≠ 0 := by rw [sa]; exact f3
      have ea : elR w m S ps.length c ps.length = S ps.length := by unfold elR; rw [if_neg (fun z => z.2.1 rfl)]
      -- a place where the pivot row has nothing
      have stay : ∀ k q, q < w → S ps.length q = 0 → (elR w m S ps.length c k q = 0 ↔ S k q = 0) := fun k q hq h0 => by
        unfold elR
        split
        · unfold crR
          rw [low_zero hq, h0, Int.zero_mul, Int.sub_zero]
          constructor
          · intro e; rcases Int.mul_eq_zero.mp e with z | z
            · exact z
            · exact absurd z sp
          · intro e; rw [e, Int.zero_mul]
        · exact Iff.rfl
      refine ⟨by rw [List.length_append, List.length_singleton]; omega, fun q h => ?_, ?_, fun i q hi => ?_, fun q hq hn k h1 h2 => ?_, fun y => ?_⟩
      · rcases List.mem_append.mp h with z | z
        · exact Nat.lt_succ_of_lt (ih.lt q z)
        · rw [List.mem_singleton.mp z]; exact Nat.lt_succ_self _
      · rw [List.pairwise_append]
        exact ⟨ih.inc, List.pairwise_singleton .., fun a h b hb => by rw [List.mem_singleton.mp hb]; exact ih.lt a h⟩
      · by_cases hlt : i < ps.length
        · rw [List.getElem?_append_left hlt] at hi
          obtain ⟨p1, p2⟩ := ih.piv i q hi
          have hqc : q < c := ih.lt q (List.mem_of_getElem? hi)
          have h0 : S ps.length q = 0 := by rw [sa]; exact p2 k0 hk0 (by omega)
          refine ⟨fun z => p1 ?_, fun k hk hne => (stay k q (by omega) h0).mpr ?_⟩
          · rw [← so i hlt]; exact (stay i q (by omega) h0).mp z
          · by_cases hk2 : k < ps.length
            · rw [so k hk2]; exact p2 k hk hne
            · obtain ⟨k', a1, a2, a3⟩ := sg k (by omega) hk
              rw [a3]; exact p2 k' a2 (by omega)
        · rw [List.getElem?_append_right (by omega)] at hi
          have hi0 : i = ps.length := by
            cases hz : i - ps.length with
            | zero => omega
            | succ n => rw [hz] at hi; cases hi
          subst hi0
          rw [Nat.sub_self] at hi
          cases hi
          refine ⟨by rw [ea]; exact sp, fun k hk hne => ?_⟩
          unfold elR
          by_cases z : S k c = 0
          · rw [if_neg (fun h => h.2.2 z)]; exact z
          · rw [if_pos ⟨hk, hne, z⟩]
            unfold crR
            rw [low_zero (by omega), Int.mul_comm, Int.sub_self]
      · rw [List.length_append, List.length_singleton] at h1
        have hqc : q ≠ c := fun z => hn (List.mem_append.mpr (.inr (List.mem_singleton.mpr z)))
        have hn' : q ∉ ps := fun z => hn (List.mem_append.mpr (.inl z))
        have h0 : S ps.length q = 0 := by rw [sa]; exact ih.out q (by omega) hn' k0 f1 hk0
        refine (stay k q (by omega) h0).mpr ?_
        obtain ⟨k', a1, a2, a3⟩ := sg k (by omega) h2
        rw [a3]
        exact ih.out q (by omega) hn' k' a1 a2
      · rw [kn_el ha sp, ← hS, kn_sw ha hk0]
        exact ih.kn y
/-! ### what the columns tell -/
theorem inc_lo : ∀ {ps : List Nat} {lo : Nat}, ps.Pairwise (· < ·) → (∀ q ∈ ps, lo ≤ q) → ∀ i q, ps[i]? = some q → lo + i ≤ q
  | [], lo, _, _, i, q, h => nomatch h
  | p :: ps, lo, hp, hl, 0, q, h => by cases h; exact hl p List.mem_cons_self
  | p :: ps, lo, hp, hl, i + 1, q, h => by
    have := inc_lo (lo := lo + 1) (List.pairwise_cons.mp hp).2 (fun q hq => by have := (List.pairwise_cons.mp hp).1 q hq; have := hl p List.mem_cons_self; omega) i q h
    omega
theorem inc_gap {n : Nat} {ps : List Nat} (h1 : ps.Pairwise (· < ·)) (h2 : ∀ q ∈ ps, q < n) (h3 : ps.length < n) : ∃ q, q < n ∧ q ∉ ps := by
  refine Classical.byContradiction fun h => ?_
  have h : ∀ q, q < n → q ∈ ps := fun q hq => Classical.byContradiction fun z => h ⟨q, hq, z⟩
  have key : ∀ i, i < ps.length → ps[i]? = some i := fun i => by
    induction i using Nat.strongRecOn with
    | _ i ih =>
      intro hi
      obtain ⟨k, hk⟩ := List.getElem?_of_mem (h i (by omega))
      have hkl := (List.getElem?_eq_some_iff.mp hk).1
      have := inc_lo (lo := 0) h1 (fun _ _ => Nat.zero_le _) k i hk
      by_cases e : k = i
      · rw [e] at hk; exact hk
      · have := ih k (by omega) hkl
        rw [hk] at this
        cases this
        exact absurd rfl e
  obtain ⟨k, hk⟩ := List.getElem?_of_mem (h ps.length h3)
  have hkl := (List.getElem?_eq_some_iff.mp hk).1
  have := key k hkl
  rw [hk] at this
  cases this
  exact absurd hkl (Nat.lt_irrefl _)
theorem idx_of {ps : List Nat} (hn : ps.Nodup) {i q : Nat} (h : ps[i]? = some q) : ps.idxOf q = i := by
  obtain ⟨hl, rfl⟩ := List.getElem?_eq_some_iff.mp h
  exact List.Nodup.idxOf_getElem hn i hl
theorem inc_nodup {ps : List Nat} (h : ps.Pairwise (· < ·)) : ps.Nodup := h.imp (fun h => Nat.ne_of_lt h)
end Dl

local macro_rules | `(tactic| walk_at "bx") => `(tactic| first | with_reducible assumption | (apply bnd_mul <;> walk_at "bx") | (apply bnd_addM <;> walk_at "bx") | (apply bnd_subM <;> walk_at "bx") | (apply bnd_negM <;> walk_at "bx") | exact bnd_lit (k := 8) (by decide) | exact bnd_lit (k := 64) (by decide) | (with_reducible (apply_assumption)))
local macro_rules | `(tactic| walk_at "bd") => `(tactic| first | with_reducible assumption | (apply bnd_mono; (walk_at "bx"); first | omega | decide))
/-! The D-layer, part 26: the program's rows and equations, read once. -/
namespace Dl
open PySem PySem.Spec
open PyProof.Rows L2
theorem bnd_addM {j k : Nat} {x y : Int} (h1 : bnd j x) (h2 : bnd k y) : bnd (max j k + 1) (x + y) := bnd_add (bnd_mono h1 (by omega)) (bnd_mono h2 (by omega))
theorem bnd_subM {j k : Nat} {x y : Int} (h1 : bnd j x) (h2 : bnd k y) : bnd (max j k + 1) (x - y) := bnd_sub' (bnd_mono h1 (by omega)) (bnd_mono h2 (by omega))
theorem bnd_negM {k : Nat} {x : Int} (h1 : bnd k x) : bnd k (-x) := by unfold bnd at *; omega
theorem bnd_lit {k : Nat} {x : Int} (h : x.natAbs < 2 ^ k) : bnd k x := h
local macro_rules | `(tactic| walk_at "sd") => `(tactic| first | with_reducible assumption | omega | with_reducible rfl | decide | exact few_of (by decide) | exact divOk_small (by decide) (by decide +kernel) | exact mulOk_r (by omega) (by omega) | exact mulOk_l (by omega) (by omega) | ((with_reducible apply mul_of); (walk_at "bx"); (walk_at "bx"); first | omega | decide) | exact few_of (by simp only [List.length_append, List.length_map, List.length_cons, List.length_nil, tab_len, List.length_replicate]; omega))
/-- a row of so many places -/
def rowW (w : Nat) (r : Nat → Int) : D := .tup (tabD w r)
end Dl

/-! The D-layer, part 27: reduced, solution, solved. -/
namespace Dl
open PySem PySem.Spec
open PyProof.Rows L2
local macro_rules | `(tactic| walk_at "sd") => `(tactic| first | with_reducible assumption | omega | with_reducible rfl | exact (rfl : (_ : Bool) = true) | decide | exact few_of (by decide) | exact divOk_small (by decide) (by decide +kernel) | exact mulOk_r (by omega) (by omega) | exact mulOk_l (by omega) (by omega) | ((with_reducible apply mul_of); (walk_at "bx"); (walk_at "bx"); first | omega | decide) | exact few_of (by simp only [List.length_append, List.length_map, List.length_cons, List.length_nil, tab_len, List.length_replicate]; omega))
end Dl

/-! The D-layer, part 28: solution, solved. -/
namespace Dl
open PySem PySem.Spec
open PyProof.Rows L2
local macro_rules | `(tactic| walk_at "sd") => `(tactic| first | with_reducible assumption | omega | with_reducible rfl | exact (rfl : (_ : Bool) = true) | decide | exact few_of (by decide) | exact divOk_small (by decide) (by decide +kernel) | exact mulOk_r (by omega) (by omega) | exact mulOk_l (by omega) (by omega) | ((with_reducible apply mul_of); (walk_at "bx"); (walk_at "bx"); first | omega | decide) | exact few_of (by simp only [List.length_append, List.length_map, List.length_cons, List.length_nil, tab_len, List.length_replicate]; omega))
def badG (m c : Nat) (R : Mat) (n : Nat) : Bool := (List.range m).any fun k => decide (n ≤ k) && decide (R k c ≠ 0)
theorem tab_last (c : Nat) (r : Nat → Int) : atI (tabD (c + 1) r) (-1) = some (.int (r c)) := by
  unfold atI ixN
  rw [tab_len, if_neg (by decide), if_pos (by omega)]
  show (tabD (c + 1) r)[((-1 : Int) + ((c + 1 : Nat) : Int)).toNat]? = _
  rw [show ((-1 : Int) + ((c + 1 : Nat) : Int)).toNat = c by omega, tab_get (by omega)]
end Dl

/-! The D-layer, part 29: is_fraction; the law's rows along points. -/
namespace Dl
open PySem PySem.Spec
open PyProof.Rows L2
local macro_rules | `(tactic| walk_at "sd") => `(tactic| first | with_reducible assumption | omega | with_reducible rfl | exact (rfl : (_ : Bool) = true) | decide | exact few_of (by decide) | exact divOk_small (by decide) (by decide +kernel) | exact mulOk_r (by omega) (by omega) | exact mulOk_l (by omega) (by omega) | ((with_reducible apply mul_of); (walk_at "bx"); (walk_at "bx"); first | omega | decide) | exact few_of (by simp only [List.length_append, List.length_map, List.length_cons, List.length_nil, tab_len, List.length_replicate]; omega))
/-- a fraction's parts -/
theorem fr_neg {t b : Int} (hb : b < 0) : fr t b = fr (-t) (-b) := by
  have key : ∀ z g : Int, z.fdiv (-g) = (-z).fdiv g := fun z g => by
    have := Int.neg_fdiv_neg (-z) g
    rw [Int.neg_neg] at this
    exact this
  unfold fr shr
  rw [if_pos hb, if_neg (by omega), Int.gcd_neg, Int.neg_gcd, key, key]
theorem fr_ex (t : Int) {b : Int} (hb : b ≠ 0) : ∃ u v : Int, fr t b = pr u v ∧ 0 < v ∧ u * b = t * v ∧ Int.gcd u v = 1 ∧ u.natAbs ≤ t.natAbs ∧ v.natAbs ≤ b.natAbs := by
  have pos : ∀ (t b : Int), 0 < b → ∃ u v : Int, fr t b = pr u v ∧ 0 < v ∧ u * b = t * v ∧ Int.gcd u v = 1 ∧ u.natAbs ≤ t.natAbs ∧ v.natAbs ≤ b.natAbs := fun t b h0 => by
    obtain ⟨s, u, v, s0, v0, e1, e2, c, d1, d2⟩ := fr_parts t h0
    refine ⟨u, v, by unfold fr; rw [d1, d2], v0, by rw [e1, e2]; ac_rfl, c, ?_, ?_⟩
    · rw [← d1]; exact fdiv_le (shr_ge h0)
    · rw [← d2]; exact fdiv_le (shr_ge h0)
  by_cases h0 : 0 < b
  · exact pos t b h0
  · obtain ⟨u, v, e, v0, h1, h2, h3, h4⟩ := pos (-t) (-b) (by omega)
    exact ⟨u, v, by rw [fr_neg (by omega), e], v0, by grind, h2, by omega, by omega⟩
/-! ### rows along points, by the law's way -/
end Dl

/-! The D-layer, part 30: a, b = a list or a tuple. -/
namespace Dl
open PySem PySem.Spec
open PyProof.Rows L2
section
variable {X : Cx} {es : List Expr} {pos : Pos}
theorem pg_or {e : Expr} {t t' : TG} (h : PG X e t) (h' : PG X e t') : PG X e (fun v σ H Q => t v σ H Q ∨ t' v σ H Q) :=
  ⟨fun pins s σ H v u Q I r q => q.elim (fun q => h.run pins s σ H v u Q I r q) fun q => h'.run pins s σ H v u Q I r q⟩
def gTq (n : Nat) (u : List D → Env' → (Env' → Prop) → Prop) : DG := fun d ρ Q => match d with
  | .tup ds => ds.length = n ∧ u ds ρ Q
  | .lst ds => ds.length = n ∧ u ds ρ Q
  | .frl ds => ds.length = n ∧ u ds ρ Q
  | _ => False
theorem rg_tuq {k n : Nat} {js : List Nat} {u : List D → Env' → (Env' → Prop) → Prop} (h : RGs X es js u) (hc : X.calm = true := by rfl) (hn : (assignEach es X.env).length = n := by rfl) (hst : (assignEach es X.env).findIdx? (·.1) = none := by rfl) : RG X (.Tuple es k pos) js (gTq n u) := by
  obtain ⟨g1, h1, h2⟩ := h.run
  refine ⟨_, pg_or (pg_tup hc h1 hn hst) (pg_lst hc h1 hn hst), fun ρ σ F H d v Qd Q hl e r kk q => ?_⟩
  cases d <;> first | exact False.elim q | skip
  · cases r with
    | tup s l r => exact .inl ⟨_, _, rfl, SqT.of (e _ _ s), by rw [r.length]; exact q.1, h2 ρ σ F H _ _ _ _ hl e r kk q.2⟩
  · cases r with
    | lst s l r => exact .inr ⟨_, _, rfl, SqL.of (e _ _ s), by rw [r.length]; exact q.1, h2 ρ σ F H _ _ _ _ hl e r kk q.2⟩
  · cases r with
    | frl s l r => exact .inr ⟨_, _, rfl, same_seqL e s, by rw [r.length]; exact q.1, h2 ρ σ F H _ _ _ _ hl e r kk q.2⟩
end
end Dl

/-! The D-layer, part 31: try, except; classes made. -/
namespace Dl
open PySem PySem.Spec
open PyProof.Rows L2
/-! ### a slot is cleared -/
def liftS (K : PySem.W.Frag) (W : WX) (t : DS) : TS := fun D σ H => ∃ (F0 H0 : Hp) (ρ : Env') (F : Hp) (d : DE), Ent K F0 H0 ρ σ F H ∧ Cnt K W F0 H0 d D ∧ t d ρ
theorem RSs.lift {X : Cx} {W : WX} {b : List Stmt} {t : DS} (h : RSs X W b t) : PSs X b (liftS X.K W t) := by
  obtain ⟨ts, h1, h2⟩ := h.run
  exact ⟨fun pins s σ H D I ⟨F0, H0, ρ, F, d, en, c, q⟩ => h1.run pins s σ H D I (h2 F0 H0 ρ σ F H D d en c q)⟩
section
variable {X : Cx} {W : WX} {body suite : List Stmt} {b₀ : Stmt} {pos pos' np : Pos} {t : DS}
/-! ### try -/
end
end Dl

/-! The D-layer, part 32: __init__ keeps its promise. -/
namespace Dl
open PySem PySem.Spec
open PyProof.Rows L2
def startI (C : Addr × Addr) (N : List Str) (ds : List D) : Env' := .oi C [] :: (ds.map .sh ++ List.replicate (N.length - (ds.length + 1)) .no)
/-- behind an __init__ -/
def atI0 (C : Addr × Addr) (Q : List (Str × D) → Prop) (ρ : Env') : Prop := match ρ with
  | .oi C' fs :: _ => C' = C ∧ Q fs
  | _ => False
abbrev dEI (C : Addr × Addr) (Q : List (Str × D) → Prop) (E : EQ) : DE := ⟨atI0 C Q, fun _ => False, fun _ => False, fun _ => False, fun _ => E, fun _ => False, fun _ _ => False⟩
theorem Rl.oi0 {K : PySem.W.Frag} {d : D} {ρ : Env'} {σ : L2.St} {F H : Hp} {x C dx : Addr} (r : Rl K (.sh d :: ρ) σ F H) (no : ∀ (i : Nat) (s : Sl), ρ[i]? = some s → ¬ s.own = true) (hs : σ[0]? = some (some (.ref x))) (hx : H x = some (.ins C dx [])) (fx : F x = none) :
    Rl K (.oi (C, x) [] :: ρ) σ F H where
  len := r.len
  fh := r.fh
  sh := fun i d' e => match i, e with
    | i + 1, e => r.sh (i + 1) d' e
  ow := fun i ds e => match i, e with
    | i + 1, e => absurd rfl (no i _ e)
  oi := fun i C' fs e => match i, e with
    | 0, e => by cases e; exact ⟨x, dx, [], hs, hx, fx, .nil, rfl⟩
    | i + 1, e => absurd rfl (no i _ e)
  od := fun i kvs e => match i, e with
    | i + 1, e => absurd rfl (no i _ e)
  inj := fun i j s t v h1 o1 h2 o2 _ _ => match i, j, h1, h2 with
    | 0, 0, _, _ => rfl
    | i + 1, _, h1, _ => absurd o1 (no i _ h1)
    | _, j + 1, _, h2 => absurd o2 (no j _ h2)
theorem def_okI {P : Program} {w : World} {K : PySem.W.Frag} {mg : Str → Option Value} {base : Heap} {name qual : Str} {st : Stmt} {f C : Addr} {N ps : List Str} {k n : Nat} {G : DI} {tb : DS} {oc dV kV doc pm cdv ct : Value} {od an : Option Addr} {osl : Array (Option Value)}
    (lk : K.lookup f = some ⟨oc, od, .func (PySem.W.fnOf name qual (defArgs st) (defBody st) (defScope st) dV kV doc pm an cdv ct), osl⟩) (hcd : PySem.W.codeIn K cdv qual = true) (S : FnScope N ps (defScope st)) (hn : ps.length = n)
    (body : ∀ (cdv : Value) (A : Around) (outer : List Env) (s : Shared) (H : Hp) (E : XK), Room k (A.deeper (envOfC qual (defScope st) s.heap.objs.size f cdv)) → RSs (cxOf (L2.CX P w) P w K mg base N qual (defScope st) f cdv A outer s H E) (WF E) (defBody st) tb)
    (read : ∀ x ds Q E, ds.length + 1 = n → G ds Q E → tb (dEI (C, x) Q E) (startI (C, x) N ds)) :
    FnOk P w K mg base (L2.CX P w) (k + 1) f (PySem.W.fnOf name qual (defArgs st) (defBody st) (defScope st) dV kV doc pm an cdv ct) ps (spI K n C G) := by
  refine fn_of lk hcd S (fun vs H Q E h => ?_) fun A outer s H vs Q E hr h => ?_
  · obtain ⟨ds, F, H1, x, dx, us, Qd, Ed, rfl, _, _, _, _, _, r, hl, _⟩ := h
    rw [List.length_cons, r.length, hl, hn]
  · obtain ⟨ts, h1, h2⟩ := (body cdv A outer s H E hr).run
    refine ⟨ts, h1, ?_⟩
    obtain ⟨ds, F1, H1, x, dx, us, Qd, Ed, rfl, hH, nx, ndx, ne, sf, r, hl, g, k1, k2⟩ := h
    have s1 : Same H1 H := by
      rw [hH]
      exact (same_upd ndx).trans (same_upd (by rw [upd_ne (Ne.symm ne)]; exact nx))
    have hx : H x = some (.ins C dx []) := by rw [hH]; exact upd_same
    have fx : F1 x = none := by
      cases e : F1 x with
      | none => rfl
      | some o => have := sf _ _ e; rw [nx] at this; cases this
    have sfH : Same F1 H := sf.trans s1
    have rl := start_rl (N := N) sfH (Reps.cons (Rep.ob (.ref x)) r)
    have no : ∀ (i : Nat) (s : Sl), (ds.map Sl.sh ++ List.replicate (N.length - (ds.length + 1)) Sl.no)[i]? = some s → ¬ s.own = true := fun i s h => start_own (N := N) (ds := .ob (.ref x) :: ds) (i := i + 1) h
    have hs0 : (L2.start N (V.ref x :: us))[0]? = some (some (.ref x)) := by
      unfold L2.start
      rfl
    have rl2 : Rl K (startI (C, x) N ds) (L2.start N (.ref x :: us)) F1 H := rl.oi0 no hs0 hx fx
    have go : Go F1 H1 F1 H := ⟨Same.refl _, s1, sfH, fun _ h _ => h⟩
    refine h2 F1 H1 (startI (C, x) N ds) _ F1 H _ (dEI (C, x) Qd Ed) ⟨rl2, go, fun i s p h o hs => ?_⟩ ⟨fun ρ σ F' H' e q => ?_, fun _ _ _ _ _ _ q => q.elim, fun _ _ _ _ _ q => q.elim, fun _ _ _ _ _ q => q.elim, fun ρ σ F' H' e x cls dx F2 H2 g r q => k2 x cls dx F2 H2 (e.go.trans g) r q, fun _ _ _ _ _ _ q => q.elim, fun _ _ _ _ _ _ _ _ _ _ _ _ q => q.elim⟩ (read x ds Qd Ed hl g)
    · cases i with
      | zero =>
        rw [hs0] at hs
        cases hs
        exact nx
      | succ i => exact absurd o (no i s h)
    · have q : atI0 (C, x) Qd ρ := q
      unfold atI0 at q
      split at q
      · rename_i C' fs tl hq
        obtain ⟨rfl, q⟩ := q
        obtain ⟨p, dx', ws, g1, g2, g3, g4, rfl⟩ := e.rl.oi 0 (C, x) fs rfl
        exact k1 fs ws F' H' dx' e.go g2 g3 g4 q
      · exact q.elim
end Dl

/-! The D-layer, part 33: what classes answer to isinstance and except. -/
namespace Dl
open PySem PySem.Spec
open PyProof.Rows L2
theorem kitcls_of {K : PySem.W.Frag} {t : Value} {C : Addr} {b : Bool} (h2 : PySem.W.isClsIn K C = true) (h3 : PySem.W.typeIn K (.ref C) = some (.type "type")) (h4 : PySem.W.subIn K t (.ref C) = some b) : PySem.W.kitCls K t (.ref C) = some b := by
  have e2 : ((PySem.W.clsIn K C).isSome && PySem.W.typeIn K (.ref C) == some (.type "type")) = true := by
    have h2' : (PySem.W.clsIn K C).isSome = true := h2
    rw [h2', h3] <;> rfl
  show (if ((PySem.W.clsIn K C).isSome && PySem.W.typeIn K (.ref C) == some (.type "type")) = true then PySem.W.subIn K t (.ref C) else none) = some b
  rw [if_pos e2]
  exact h4
theorem kit_of {K : PySem.W.Frag} {t : Value} {C : Addr} {b : Bool} (h2 : PySem.W.isClsIn K C = true) (h3 : PySem.W.typeIn K (.ref C) = some (.type "type")) (h4 : PySem.W.subIn K t (.ref C) = some b) (hne : (t == .ref C) = true → b = true) : PySem.W.kitOne K t (.ref C) = some b := by
  unfold PySem.W.kitOne
  by_cases h : (t == .ref C) = true
  · rw [if_pos h, hne h]
  · rw [if_neg h]; exact kitcls_of h2 h3 h4
end Dl

/-! The D-layer, part 34: a tuple times 0, 1; a list == []. -/
namespace Dl
open PySem PySem.Spec
open PyProof.Rows L2
section
variable {X : Cx}
/-! ### lists of unlike lengths -/
theorem op_eqLen (hu : X.A.units + 64 < cLine) : OpR X (compareOp .Eq) (fun x y H Q => ∃ a b xs ys, x = .ref a ∧ y = .ref b ∧ SqL X.K H a xs ∧ SqL X.K H b ys ∧ xs.length ≠ ys.length ∧ Q (.bl false) H) := by
  intro pins s σ H x y v u Q I rx ry h
  obtain ⟨a, b, xs, ys, rfl, rfl, h1, h2, hne, q⟩ := h
  cases rx
  cases ry
  obtain ⟨its, r, pl, -⟩ := I.list h1
  obtain ⟨its2, r2, pl2, -⟩ := I.list h2
  refine SeqAt.eq_list_lengthsAt pl.isList pl2.isList ?_ (by omega) ⟨.bl false, H, I, rfl, q⟩
  rw [List.size_toArray, List.size_toArray, ← r.length, ← r2.length]
  exact bne_iff_ne.mpr hne
/-- a list == [], whatever is in it -/
def kEqZ : KD := fun x y Q => match x, y with
  | .lst (_ :: _), .lst [] => Q (.bl false)
  | x, y => kEq x y Q
theorem opd_eqZ (hu : X.A.units + 64 < cLine) : OpD X (compareOp .Eq) kEqZ := by
  have base : OpD X (compareOp .Eq) (fun x y Q => match x, y with | .lst (_ :: _), .lst [] => Q (.bl false) | _, _ => False) := by
    refine ⟨_, op_eqLen hu, fun x y vx vy F H Qd Q e px py kk q => ?_⟩
    dsimp only at q
    split at q
    · obtain ⟨p, vs, rfl, h1, l1, r1⟩ := px.lst e
      obtain ⟨p', vs', rfl, h1', l1', r1'⟩ := py.lst e
      refine ⟨p, p', vs, vs', rfl, rfl, SqL.of h1, SqL.of h1', ?_, kk _ _ F H (.refl e) (.bl _) q⟩
      rw [r1.length, r1'.length]
      exact fun z => nomatch z
    · exact q.elim
  refine (base.or (opd_eq hu)).imp fun x y Q h => ?_
  unfold kEqZ at h
  split at h
  · exact .inl h
  · exact .inr h
end
end Dl

/-! The D-layer, part 35: things, read once. -/
namespace Dl
open PySem PySem.Spec
open PyProof.Rows L2
local macro_rules | `(tactic| walk_at "sd") => `(tactic| first | with_reducible assumption | omega | with_reducible rfl | exact (rfl : (_ : Bool) = true) | decide | exact few_of (by decide) | exact divOk_small (by decide) (by decide +kernel) | exact mulOk_r (by omega) (by omega) | exact mulOk_l (by omega) (by omega) | ((with_reducible apply mul_of); (walk_at "bx"); (walk_at "bx"); first | omega | decide) | exact few_of (by simp only [List.length_append, List.length_map, List.length_cons, List.length_nil, tab_len, List.length_replicate]; omega))
structure ThK (K : PySem.W.Frag) (C_Mode C_Thing : Addr) : Prop where
  f_Mode_rows : FldOk K C_Mode "rows"
  f_Mode_nexts : FldOk K C_Mode "nexts"
  f_Mode_steer : FldOk K C_Mode "steer"
  f_Mode_push : FldOk K C_Mode "push"
  f_Mode_add : FldOk K C_Mode "add"
  f_Mode_divisor : FldOk K C_Mode "divisor"
  f_Thing_many : FldOk K C_Thing "many"
  f_Thing_bounds : FldOk K C_Thing "bounds"
  f_Thing_ways : FldOk K C_Thing "ways"
  i_Mode : InsTy K C_Mode
  i_Thing : InsTy K C_Thing
  k_Mode_Mode : PySem.W.kitOne K (.ref C_Mode) (.ref C_Mode) = some true
  n_int_Mode : PySem.W.kitOne K (.type "int") (.ref C_Mode) = some false
  n_bool_Mode : PySem.W.kitOne K (.type "bool") (.ref C_Mode) = some false
  n_NoneType_Mode : PySem.W.kitOne K (.type "NoneType") (.ref C_Mode) = some false
  n_str_Mode : PySem.W.kitOne K (.type "str") (.ref C_Mode) = some false
  n_tuple_Mode : PySem.W.kitOne K (.type "tuple") (.ref C_Mode) = some false
  n_list_Mode : PySem.W.kitOne K (.type "list") (.ref C_Mode) = some false
  n_dict_Mode : PySem.W.kitOne K (.type "dict") (.ref C_Mode) = some false
/-! ### kinds -/
def isWhB (d : D) : Bool := match d with
  | .int _ => true
  | _ => false
theorem isWh_some {d : D} (h : isWh d ≠ none) : isWh d = some (isWhB d) := by
  cases d <;> first
    | rfl
    | exact absurd rfl h
/-- known things: no raw ones, no list that is only lent -/
def knD (d : D) : Prop := tyN d ≠ none ∧ ∀ xs, d ≠ .frl xs
def kw (d : D) : Prop := knD d ∧ ∀ xs, (d = .lst xs ∨ d = .tup xs) → ∀ x ∈ xs, isWh x ≠ none
def awB (d : D) (k : Int) : Bool := match d with
  | .lst xs => decide ((xs.length : Int) = k) && xs.all isWhB
  | _ => false
def rwB (d : D) (k : Int) : Bool := match d with
  | .tup xs => decide ((xs.length : Int) = k + 1) && xs.all isWhB
  | _ => false
def rmB (d : D) (k : Int) : Bool := match d with
  | .lst xs => xs.all fun r => rwB r k
  | _ => false
def tbB (d : D) (k w : Int) : Bool := match d with
  | .lst xs => decide ((xs.length : Int) = k) && xs.all fun r => awB r w
  | _ => false
def kws (d : D) : Prop := knD d ∧ ∀ xs, d = .lst xs → ∀ x ∈ xs, kw x
theorem all_map_bl {α : Type} (f : α → Bool) (xs : List α) : blsOf (xs.map fun x => D.bl (f x)) = some (xs.map f) := by
  rw [show xs.map (fun x => D.bl (f x)) = (xs.map f).map D.bl by rw [List.map_map]; rfl, blsOf_map]
theorem all_map_id {α : Type} (f : α → Bool) (xs : List α) : (xs.map f).all id = xs.all f := by rw [List.all_map]; rfl
abbrev g_own_list : DF := fun ds Q _ => ∃ d, ds = [d] ∧ knD d ∧ Q d
abbrev N_own_list : List Str := ["thing"]
def tb_own_list (K : PySem.W.Frag) : DS :=
  (dSq (dIf (dTest (dCB (kIsi K) (dCons (dVarP 0) (dCons (dC (.ty "list")) dNil)))) (dRet (dCB kList (dCons (dVarP 0) dNil))) dNext) (dRet (dVar 0)))
theorem rd_own_list {K : PySem.W.Frag} (ds : List D) (Q E : EQ) (_ : ds.length = 1) (h : g_own_list ds Q E) : tb_own_list K (dE Q E) (startD N_own_list ds) := by
  obtain ⟨d, rfl, hd, q⟩ := h
  unfold tb_own_list dE
  cases d <;> first
    | exact absurd rfl hd.1
    | exact absurd rfl (hd.2 _)
    | (walk_at "go"; exact q)
/-- what own copies -/
def ko (d : D) : Prop := knD d ∧ ∀ xs, d = .lst xs → ∀ x ∈ xs, knD x
abbrev g_own : DF := fun ds Q _ => ∃ d, ds = [d] ∧ ko d ∧ Q d
abbrev N_own : List Str := ["thing", "one"]
def tb_own (K : PySem.W.Frag) : DS :=
  (dSq (dIf (dNot (dTest (dCB (kIsi K) (dCons (dVarP 0) (dCons (dC (.ty "list")) dNil))))) (dRet (dVar 0)) dNext) (dRet (dFz (dLcN (dSeq (dVar 0)) (gNm 1) dYes (dCall 1 [] g_own_list (dCons (dVar 1) dNil)) [1]))))
theorem rd_own {K : PySem.W.Frag} (ds : List D) (Q E : EQ) (_ : ds.length = 1) (h : g_own ds Q E) : tb_own K (dE Q E) (startD N_own ds) := by
  obtain ⟨d, rfl, hd, q⟩ := h
  unfold tb_own dE
  cases d with
  | lst xs =>
    walk_at "go"
    refine compL_map id _ _ (fun e he K1 K0 hK => ?_) (by rw [List.map_id, List.nil_append]; exact q)
    walk_at "go"
    exact ⟨e, rfl, hd.2 xs rfl e he, hK⟩
  | _ => first
    | exact absurd rfl hd.1.1
    | exact absurd rfl (hd.1.2 _)
    | (walk_at "go"; exact q)
abbrev g_are_wholes : DF := fun ds Q _ => ∃ (d : D) (k : Int), ds = [d, .int k] ∧ kw d ∧ Q (.bl (awB d k))
abbrev N_are_wholes : List Str := ["thing", "many", "one"]
def tb_are_wholes (K : PySem.W.Frag) : DS :=
  (dRet (dAndV (dCB (kIsi K) (dCons (dVarP 0) (dCons (dC (.ty "list")) dNil))) (dAndV (dOp kEq (dCB kLen (dCons (dVarP 0) dNil)) (dVarP 1)) (dCB kAll (dCons (dFz (dLcN (dSeq (dVar 0)) (gNm 2) dYes (dCall 1 [] g_is_whole (dCons (dVar 2) dNil)) [2])) dNil)))))
theorem rd_are_wholes {K : PySem.W.Frag} (ds : List D) (Q E : EQ) (_ : ds.length = 2) (h : g_are_wholes ds Q E) : tb_are_wholes K (dE Q E) (startD N_are_wholes ds) := by
  obtain ⟨d, k, rfl, hd, q⟩ := h
  unfold tb_are_wholes dE
  cases d with
  | lst xs =>
    have q : Q (.bl (decide ((xs.length : Int) = k) && xs.all isWhB)) := q
    walk_at "go"
    by_cases h0 : (xs.length : Int) = k
    · rw [decide_eq_true h0] at q ⊢
      walk_at "go"
      refine compL_map (fun d => .bl (isWhB d)) _ _ (fun e he K1 K0 hK => ?_) ?_
      · walk_at "go"
        exact ⟨e, _, rfl, isWh_some (hd.2 xs (.inl rfl) e he), hK⟩
      · rw [List.nil_append]
        walk_at "rd"
        rw [all_map_bl]
        walk_at "rd"
        rw [all_map_id]
        exact q
    · rw [decide_eq_false h0] at q ⊢
      walk_at "go"
      exact q
  | _ => first
    | exact absurd rfl hd.1.1
    | exact absurd rfl (hd.1.2 _)
    | (walk_at "go"; exact q)
abbrev g_is_row : DF := fun ds Q _ => ∃ (d : D) (k : Int), ds = [d, .int k] ∧ kw d ∧ Q (.bl (rwB d k))
abbrev N_is_row : List Str := ["thing", "many", "one"]
def tb_is_row (K : PySem.W.Frag) : DS :=
  (dRet (dAndV (dCB (kIsi K) (dCons (dVarP 0) (dCons (dC (.ty "tuple")) dNil))) (dAndV (dOp kEq (dCB kLen (dCons (dVarP 0) dNil)) (dOp kAdd (dVarP 1) (dC (.int 1)))) (dCB kAll (dCons (dFz (dLcN (dSeq (dVar 0)) (gNm 2) dYes (dCall 1 [] g_is_whole (dCons (dVar 2) dNil)) [2])) dNil)))))
theorem rd_is_row {K : PySem.W.Frag} (ds : List D) (Q E : EQ) (_ : ds.length = 2) (h : g_is_row ds Q E) : tb_is_row K (dE Q E) (startD N_is_row ds) := by
  obtain ⟨d, k, rfl, hd, q⟩ := h
  unfold tb_is_row dE
  cases d with
  | tup xs =>
    have q : Q (.bl (decide ((xs.length : Int) = k + 1) && xs.all isWhB)) := q
    walk_at "go"
    by_cases h0 : (xs.length : Int) = k + 1
    · rw [decide_eq_true h0] at q ⊢
      walk_at "go"
      refine compL_map (fun d => .bl (isWhB d)) _ _ (fun e he K1 K0 hK => ?_) ?_
      · walk_at "go"
        exact ⟨e, _, rfl, isWh_some (hd.2 xs (.inr rfl) e he), hK⟩
      · rw [List.nil_append]
        walk_at "rd"
        rw [all_map_bl]
        walk_at "rd"
        rw [all_map_id]
        exact q
    · rw [decide_eq_false h0] at q ⊢
      walk_at "go"
      exact q
  | _ => first
    | exact absurd rfl hd.1.1
    | exact absurd rfl (hd.1.2 _)
    | (walk_at "go"; exact q)
abbrev g_is_room : DF := fun ds Q _ => ∃ (d : D) (k : Int), ds = [d, .int k] ∧ kws d ∧ Q (.bl (rmB d k))
abbrev N_is_room : List Str := ["thing", "many", "row"]
def tb_is_room (K : PySem.W.Frag) : DS :=
  (dRet (dAndV (dCB (kIsi K) (dCons (dVarP 0) (dCons (dC (.ty "list")) dNil))) (dCB kAll (dCons (dFz (dLcN (dSeq (dVar 0)) (gNm 2) dYes (dCall 2 [] g_is_row (dCons (dVar 2) (dCons (dVar 1) dNil))) [2])) dNil))))
theorem rd_is_room {K : PySem.W.Frag} (ds : List D) (Q E : EQ) (_ : ds.length = 2) (h : g_is_room ds Q E) : tb_is_room K (dE Q E) (startD N_is_room ds) := by
  obtain ⟨d, k, rfl, hd, q⟩ := h
  unfold tb_is_room dE
  cases d with
  | lst xs =>
    have q : Q (.bl (xs.all fun r => rwB r k)) := q
    walk_at "go"
    refine compL_map (fun d => .bl (rwB d k)) _ _ (fun e he K1 K0 hK => ?_) ?_
    · walk_at "go"
      exact ⟨e, k, rfl, hd.2 xs rfl e he, hK⟩
    · rw [List.nil_append]
      walk_at "rd"
      rw [all_map_bl (fun d => rwB d k)]
      walk_at "rd"
      rw [all_map_id]
      exact q
  | _ => first
    | exact absurd rfl hd.1.1
    | exact absurd rfl (hd.1.2 _)
    | (walk_at "go"; exact q)
abbrev g_is_table : DF := fun ds Q _ => ∃ (d : D) (k w : Int), ds = [d, .int k, .int w] ∧ kws d ∧ Q (.bl (tbB d k w))
abbrev N_is_table : List Str := ["thing", "many", "wide", "one"]
def tb_is_table (K : PySem.W.Frag) : DS :=
  (dRet (dAndV (dCB (kIsi K) (dCons (dVarP 0) (dCons (dC (.ty "list")) dNil))) (dAndV (dOp kEq (dCB kLen (dCons (dVarP 0) dNil)) (dVarP 1)) (dCB kAll (dCons (dFz (dLcN (dSeq (dVar 0)) (gNm 3) dYes (dCall 2 [] g_are_wholes (dCons (dVar 3) (dCons (dVar 2) dNil))) [3])) dNil)))))
theorem rd_is_table {K : PySem.W.Frag} (ds : List D) (Q E : EQ) (_ : ds.length = 3) (h : g_is_table ds Q E) : tb_is_table K (dE Q E) (startD N_is_table ds) := by
  obtain ⟨d, k, w, rfl, hd, q⟩ := h
  unfold tb_is_table dE
  cases d with
  | lst xs =>
    have q : Q (.bl (decide ((xs.length : Int) = k) && xs.all fun r => awB r w)) := q
    walk_at "go"
    by_cases h0 : (xs.length : Int) = k
    · rw [decide_eq_true h0] at q ⊢
      walk_at "go"
      refine compL_map (fun d => .bl (awB d w)) _ _ (fun e he K1 K0 hK => ?_) ?_
      · walk_at "go"
        exact ⟨e, w, rfl, hd.2 xs rfl e he, hK⟩
      · rw [List.nil_append]
        walk_at "rd"
        rw [all_map_bl (fun d => awB d w)]
        walk_at "rd"
        rw [all_map_id]
        exact q
    · rw [decide_eq_false h0] at q ⊢
      walk_at "go"
      exact q
  | _ => first
    | exact absurd rfl hd.1.1
    | exact absurd rfl (hd.1.2 _)
    | (walk_at "go"; exact q)
/-! ### modes -/
def mdF (a b c d e f : D) : List (Str × D) := [("rows", a), ("nexts", b), ("steer", c), ("push", d), ("add", e), ("divisor", f)]
abbrev g_Mode_init : DI := fun ds Q _ => ∃ a b c d e f, ds = [a, b, c, d, e, f] ∧ ko a ∧ ko b ∧ ko c ∧ ko d ∧ ko e ∧ Q (mdF a b c d e f)
abbrev N_Mode_init : List Str := ["self", "rows", "nexts", "steer", "push", "add", "divisor"]
def tb_Mode_init (K : PySem.W.Frag) : DS :=
  (dSq (dPutF K 0 "rows" (dCall 1 [] g_own (dCons (dVar 1) dNil))) (dSq (dPutF K 0 "nexts" (dCall 1 [] g_own (dCons (dVar 2) dNil))) (dSq (dPutF K 0 "steer" (dCall 1 [] g_own (dCons (dVar 3) dNil))) (dSq (dPutF K 0 "push" (dCall 1 [] g_own (dCons (dVar 4) dNil))) (dSq (dPutF K 0 "add" (dCall 1 [] g_own (dCons (dVar 5) dNil))) (dPutF K 0 "divisor" (dVar 6)))))))
theorem rd_Mode_init {K : PySem.W.Frag} {CM CT : Addr} (hK : ThK K CM CT) (x : Addr) (ds : List D) (Q : List (Str × D) → Prop) (E : EQ) (_ : ds.length + 1 = 7) (h : g_Mode_init ds Q E) : tb_Mode_init K (dEI (CM, x) Q E) (startI (CM, x) N_Mode_init ds) := by
  obtain ⟨a, b, c, d, e, f, rfl, ha, hb, hc, hd, he, q⟩ := h
  have k1 := hK.f_Mode_rows
  have k2 := hK.f_Mode_nexts
  have k3 := hK.f_Mode_steer
  have k4 := hK.f_Mode_push
  have k5 := hK.f_Mode_add
  have k6 := hK.f_Mode_divisor
  unfold tb_Mode_init dEI startI
  walk_at "go"
  refine ⟨a, rfl, ha, ?_⟩
  walk_at "go"
  refine ⟨b, rfl, hb, ?_⟩
  walk_at "go"
  refine ⟨Nat.le_of_ble_eq_true rfl, ?_⟩
  walk_at "go"
  refine ⟨c, rfl, hc, ?_⟩
  walk_at "go"
  refine ⟨Nat.le_of_ble_eq_true rfl, ?_⟩
  walk_at "go"
  refine ⟨d, rfl, hd, ?_⟩
  walk_at "go"
  refine ⟨Nat.le_of_ble_eq_true rfl, ?_⟩
  walk_at "go"
  refine ⟨e, rfl, he, ?_⟩
  walk_at "go"
  refine ⟨Nat.le_of_ble_eq_true rfl, ?_⟩
  walk_at "go"
  refine ⟨Nat.le_of_ble_eq_true rfl, ?_⟩
  walk_at "go"
  exact q
def dvB (d : D) : Bool := match d with
  | .int z => decide (1 ≤ z)
  | _ => false
def mdB (C : Addr) (d : D) (n p : Int) : Bool := match d with
  | .ins C' [(_, a), (_, b), (_, c), (_, d), (_, e), (_, f)] => decide (C' = C) && (rmB a n && tbB b n n && awB c n && tbB d n p && awB e n && dvB f)
  | _ => false
/-- a mode, or something known that is none -/
def kM (C : Addr) (d : D) : Prop := (∃ a b c e f g, d = .ins C (mdF a b c e f g) ∧ kws a ∧ kws b ∧ kw c ∧ kws e ∧ kw f ∧ isWh g ≠ none) ∨ tyN d ≠ none
abbrev g_is_mode (C : Addr) : DF := fun ds Q _ => ∃ (d : D) (n p : Int), ds = [d, .int n, .int p] ∧ kM C d ∧ Q (.bl (mdB C d n p))
abbrev N_is_mode : List Str := ["thing", "many", "wide"]
def tb_is_mode (K : PySem.W.Frag) (C_Mode : Addr) : DS :=
  (dSq (dIf (dOr (dNot (dTest (dCB (kIsi K) (dCons (dVarP 0) (dCons (dC (.cls C_Mode)) dNil))))) (dOr (dNot (dTest (dCall 2 [] g_is_room (dCons (dFld K "rows" (dVar 0)) (dCons (dVar 1) dNil))))) (dNot (dTest (dCall 3 [] g_is_table (dCons (dFld K "nexts" (dVar 0)) (dCons (dVar 1) (dCons (dVar 1) dNil)))))))) (dRet (dC (.bl false))) dNext) (dSq (dIf (dOr (dNot (dTest (dCall 2 [] g_are_wholes (dCons (dFld K "steer" (dVar 0)) (dCons (dVar 1) dNil))))) (dOr (dNot (dTest (dCall 3 [] g_is_table (dCons (dFld K "push" (dVar 0)) (dCons (dVar 1) (dCons (dVar 2) dNil)))))) (dNot (dTest (dCall 2 [] g_are_wholes (dCons (dFld K "add" (dVar 0)) (dCons (dVar 1) dNil))))))) (dRet (dC (.bl false))) dNext) (dRet (dAndV (dCall 1 [] g_is_whole (dCons (dFld K "divisor" (dVar 0)) dNil)) (dOp kGe (dFld K "divisor" (dVar 0)) (dC (.int 1)))))))
theorem rd_is_mode {K : PySem.W.Frag} {CM CT : Addr} (hK : ThK K CM CT) (ds : List D) (Q E : EQ) (_ : ds.length = 3) (h : g_is_mode CM ds Q E) : tb_is_mode K CM (dE Q E) (startD N_is_mode ds) := by
  obtain ⟨d, n, p, rfl, hd, q⟩ := h
  have k1 := hK.f_Mode_rows
  have k2 := hK.f_Mode_nexts
  have k3 := hK.f_Mode_steer
  have k4 := hK.f_Mode_push
  have k5 := hK.f_Mode_add
  have k6 := hK.f_Mode_divisor
  have ki := hK.i_Mode
  unfold tb_is_mode dE
  rcases hd with ⟨a, b, c, e, f, g, rfl, ha, hb, hc, he, hf, hg⟩ | hd
  · have q : Q (.bl (decide (CM = CM) && (rmB a n && tbB b n n && awB c n && tbB e n p && awB f n && dvB g))) := q
    rw [decide_eq_true rfl, Bool.true_and] at q
    unfold mdF
    walk_at "go"
    rw [hK.k_Mode_Mode]
    walk_at "go"
    refine ⟨a, n, rfl, ha, ?_⟩
    cases h1 : rmB a n
    · rw [h1] at q; walk_at "go"; exact q
    rw [h1] at q
    walk_at "go"
    refine ⟨b, n, n, rfl, hb, ?_⟩
    cases h2 : tbB b n n
    · rw [h2] at q; walk_at "go"; exact q
    rw [h2] at q
    walk_at "go"
    refine ⟨c, n, rfl, hc, ?_⟩
    cases h3 : awB c n
    · rw [h3] at q; walk_at "go"; exact q
    rw [h3] at q
    walk_at "go"
    refine ⟨e, n, p, rfl, he, ?_⟩
    cases h4 : tbB e n p
    · rw [h4] at q; walk_at "go"; exact q
    rw [h4] at q
    walk_at "go"
    refine ⟨f, n, rfl, hf, ?_⟩
    cases h5 : awB f n
    · rw [h5] at q; walk_at "go"; exact q
    rw [h5] at q
    walk_at "go"
    refine ⟨g, _, rfl, isWh_some hg, ?_⟩
    cases g <;> first
      | (walk_at "go"; exact q)
      | exact absurd rfl hg
  · have ks : PySem.W.kitOne K (.type "int") (.ref CM) = some false ∧ PySem.W.kitOne K (.type "bool") (.ref CM) = some false ∧ PySem.W.kitOne K (.type "NoneType") (.ref CM) = some false ∧ PySem.W.kitOne K (.type "str") (.ref CM) = some false ∧ PySem.W.kitOne K (.type "tuple") (.ref CM) = some false ∧ PySem.W.kitOne K (.type "list") (.ref CM) = some false ∧ PySem.W.kitOne K (.type "dict") (.ref CM) = some false :=
      ⟨hK.n_int_Mode, hK.n_bool_Mode, hK.n_NoneType_Mode, hK.n_str_Mode, hK.n_tuple_Mode, hK.n_list_Mode, hK.n_dict_Mode⟩
    obtain ⟨z1, z2, z3, z4, z5, z6, z7⟩ := ks
    cases d <;> first
      | exact absurd rfl hd
      | (walk_at "go"; first | rw [z1] | rw [z2] | rw [z3] | rw [z4] | rw [z5] | rw [z6] | rw [z7]
         walk_at "go"; exact q)
end Dl

/-! The D-layer, part 36: things made, told. -/
namespace Dl
open PySem PySem.Spec
open PyProof.Rows L2
local macro_rules | `(tactic| walk_at "sd") => `(tactic| first | with_reducible assumption | omega | with_reducible rfl | exact (rfl : (_ : Bool) = true) | decide | exact few_of (by decide) | exact divOk_small (by decide) (by decide +kernel) | exact mulOk_r (by omega) (by omega) | exact mulOk_l (by omega) (by omega) | ((with_reducible apply mul_of); (walk_at "bx"); (walk_at "bx"); first | omega | decide) | exact few_of (by simp only [List.length_append, List.length_map, List.length_cons, List.length_nil, tab_len, List.length_replicate]; omega))
def psTwo : D → D → Bool
  | .int a, .int b => decide (a ≤ b)
  | _, _ => false
def psB (d : D) : Bool := match d with
  | .tup l => (match l with
    | [x, y] => psTwo x y
    | _ => false)
  | _ => false
def kP (d : D) : Prop := knD d ∧ ∀ x y, d = .tup [x, y] → isWh x ≠ none ∧ isWh y ≠ none
abbrev g_is_push : DF := fun ds Q _ => ∃ d, ds = [d] ∧ kP d ∧ Q (.bl (psB d))
abbrev N_is_push : List Str := ["thing"]
def tb_is_push (K : PySem.W.Frag) : DS :=
  (dSq (dIf (dOr (dNot (dTest (dCB (kIsi K) (dCons (dVarP 0) (dCons (dC (.ty "tuple")) dNil))))) (dOr (dTest (dOp kNe (dCB kLen (dCons (dVarP 0) dNil)) (dC (.int 2)))) (dOr (dNot (dTest (dCall 1 [] g_is_whole (dCons (dOp kIx (dVarP 0) (dC (.int 0))) dNil)))) (dNot (dTest (dCall 1 [] g_is_whole (dCons (dOp kIx (dVarP 0) (dC (.int 1))) dNil))))))) (dRet (dC (.bl false))) dNext) (dRet (dOp kLe (dOp kIx (dVarP 0) (dC (.int 0))) (dOp kIx (dVarP 0) (dC (.int 1))))))
theorem rd_is_push {K : PySem.W.Frag} (ds : List D) (Q E : EQ) (_ : ds.length = 1) (h : g_is_push ds Q E) : tb_is_push K (dE Q E) (startD N_is_push ds) := by
  obtain ⟨d, rfl, hd, q⟩ := h
  unfold tb_is_push dE
  cases d with
  | tup l =>
    match l, hd, q with
    | [], hd, q => walk_at "go"; exact q
    | [x], hd, q => walk_at "go"; exact q
    | [x, y], hd, q =>
      obtain ⟨hx, hy⟩ := hd.2 x y rfl
      walk_at "go"
      refine ⟨x, _, rfl, isWh_some hx, ?_⟩
      cases x <;> first
        | exact absurd rfl hx
        | (walk_at "go"; exact q)
        | skip
      walk_at "go"
      refine ⟨y, _, rfl, isWh_some hy, ?_⟩
      cases y <;> first
        | exact absurd rfl hy
        | (walk_at "go"; exact q)
    | x :: y :: z :: l, hd, q =>
      walk_at "go"
      exact q
  | _ => first
    | exact absurd rfl hd.1.1
    | exact absurd rfl (hd.1.2 _)
    | (walk_at "go"; exact q)
/-! ### things -/
def thF (m b w : D) : List (Str × D) := [("many", m), ("bounds", b), ("ways", w)]
def manyB (d : D) : Bool := match d with
  | .int n => decide (1 ≤ n) && decide (n ≤ 3)
  | _ => false
def psB' (d : D) : Bool := match d with
  | .lst xs => xs.all psB
  | _ => false
def msB (C : Addr) (n : Int) (d : D) (p : Int) : Bool := match d with
  | .lst (x :: xs) => (x :: xs).all fun m => mdB C m n p
  | _ => false
def lenD (d : D) : Nat := match d with
  | .lst xs => xs.length
  | _ => 0
def numD (d : D) : Int := match d with
  | .int n => n
  | _ => 0
def thB (C : Addr) (m b w : D) : Bool := manyB m && (psB' b && msB C (numD m) w (lenD b))
def kPs (d : D) : Prop := knD d ∧ ∀ xs, d = .lst xs → ∀ x ∈ xs, kP x
def kMs (C : Addr) (d : D) : Prop := knD d ∧ ∀ xs, d = .lst xs → ∀ x ∈ xs, kM C x
/-- what Thing(many, pushes, modes) does: CM, CB, CO the classes Mode, BadThing, TooMany -/
abbrev g_Thing_init (CM CB CO : Addr) : DI := fun ds Q E => ∃ m b w, ds = [m, b, w] ∧ isWh m ≠ none ∧ kPs b ∧ kMs CM w ∧
  if thB CM m b w = true then (if 6 < lenD b ∨ 40 < lenD w then E (.ins CO []) else Q (thF m b w)) else E (.ins CB [])
abbrev N_Thing_init : List Str := ["self", "many", "pushes", "modes", "push", "mode"]
def tb_Thing_init (K : PySem.W.Frag) (C_BadThing C_Mode C_TooMany : Addr) : DS :=
  (dSq (dIf (dOr (dNot (dTest (dCall 1 [] g_is_whole (dCons (dVar 1) dNil)))) (dNot (dTest (dChain kLe kLe (dC (.int 1)) (dVarP 1) (dC (.int 3)))))) (dRaise C_BadThing) dNext) (dSq (dIf (dOr (dNot (dTest (dCB (kIsi K) (dCons (dVarP 2) (dCons (dC (.ty "list")) dNil))))) (dNot (dTest (dCB kAll (dCons (dFz (dLcN (dSeq (dVar 2)) (gNm 4) dYes (dCall 1 [] g_is_push (dCons (dVar 4) dNil)) [4])) dNil))))) (dRaise C_BadThing) dNext) (dSq (dIf (dOr (dNot (dTest (dCB (kIsi K) (dCons (dVarP 3) (dCons (dC (.ty "list")) dNil))))) (dTest (dOp kEqZ (dVarP 3) (dLst dNil)))) (dRaise C_BadThing) dNext) (dSq (dIf (dNot (dTest (dCB kAll (dCons (dFz (dLcN (dSeq (dVar 3)) (gNm 5) dYes (dCall 3 [] (g_is_mode C_Mode) (dCons (dVar 5) (dCons (dVar 1) (dCons (dCB kLen (dCons (dVarP 2) dNil)) dNil)))) [5])) dNil)))) (dRaise C_BadThing) dNext) (dSq (dIf (dOr (dTest (dOp kGt (dCB kLen (dCons (dVarP 2) dNil)) (dC (.int 6)))) (dTest (dOp kGt (dCB kLen (dCons (dVarP 3) dNil)) (dC (.int 40))))) (dRaise C_TooMany) dNext) (dSq (dPutF K 0 "many" (dVar 1)) (dSq (dPutF K 0 "bounds" (dCB kList (dCons (dVarP 2) dNil))) (dPutF K 0 "ways" (dCB kList (dCons (dVarP 3) dNil))))))))))
theorem rd_Thing_init {K : PySem.W.Frag} {CM CT CB CO : Addr} (hK : ThK K CM CT) (x : Addr) (ds : List D) (Q : List (Str × D) → Prop) (E : EQ) (_ : ds.length + 1 = 4) (h : g_Thing_init CM CB CO ds Q E) : tb_Thing_init K CB CM CO (dEI (CT, x) Q E) (startI (CT, x) N_Thing_init ds) := by
  obtain ⟨m, b, w, rfl, hm, hb, hw, q⟩ := h
  have k1 := hK.f_Thing_many
  have k2 := hK.f_Thing_bounds
  have k3 := hK.f_Thing_ways
  unfold tb_Thing_init dEI startI
  walk_at "go"
  refine ⟨m, _, rfl, isWh_some hm, ?_⟩
  -- the number
  have bad : ∀ (c : Bool), manyB m = false → E (.ins CB []) := fun _ h => by
    unfold thB at q
    rw [h] at q
    exact q
  cases m with
  | int n =>
    walk_at "go"
    by_cases h1 : 1 ≤ n
    case neg =>
      rw [decide_eq_false h1]
      walk_at "go"
      exact bad true (by unfold manyB; dsimp only; rw [decide_eq_false h1]; rfl)
    rw [decide_eq_true h1]
    walk_at "go"
    by_cases h3 : n ≤ 3
    case neg =>
      rw [decide_eq_false h3]
      walk_at "go"
      exact bad true (by unfold manyB; dsimp only; rw [decide_eq_false h3, Bool.and_false])
    rw [decide_eq_true h3]
    have hmb : manyB (.int n) = true := by unfold manyB; dsimp only; rw [decide_eq_true h1, decide_eq_true h3]; rfl
    unfold thB at q
    rw [hmb, Bool.true_and] at q
    walk_at "go"
    -- the pushes
    cases b with
    | lst ps =>
      walk_at "go"
      refine compL_map (fun d => .bl (psB d)) _ _ (fun e he K1 K0 hK => ?_) ?_
      · walk_at "go"
        exact ⟨e, rfl, hb.2 ps rfl e he, hK⟩
      rw [List.nil_append]
      walk_at "rd"
      rw [all_map_bl]
      walk_at "rd"
      rw [all_map_id]
      have e1 : psB' (.lst ps) = ps.all psB := rfl
      rw [e1] at q
      cases hp : ps.all psB
      · rw [hp] at q
        walk_at "go"
        exact q
      rw [hp, Bool.true_and] at q
      walk_at "go"
      -- the modes
      cases w with
      | lst ms =>
        cases ms with
        | nil =>
          walk_at "go"
          refine ⟨plain_of rfl, plain_of rfl, ?_⟩
          walk_at "go"
          exact q
        | cons x xs =>
          walk_at "go"
          refine compL_map (fun d => .bl (mdB CM d n ps.length)) _ _ (fun e he K1 K0 hK => ?_) ?_
          · walk_at "go"
            exact ⟨e, n, _, rfl, hw.2 _ rfl e he, hK⟩
          rw [List.nil_append]
          walk_at "rd"
          rw [show (D.bl (mdB CM x n ps.length) :: xs.map fun d => D.bl (mdB CM d n ps.length)) = (x :: xs).map (fun d => D.bl (mdB CM d n ps.length)) from rfl, all_map_bl (fun d => mdB CM d n ps.length)]
          walk_at "rd"
          rw [show (mdB CM x n ps.length :: xs.map fun d => mdB CM d n ps.length) = (x :: xs).map (fun d => mdB CM d n ps.length) from rfl, all_map_id]
          have e2 : msB CM (numD (.int n)) (.lst (x :: xs)) (lenD (.lst ps)) = (x :: xs).all fun m => mdB CM m n ps.length := rfl
          rw [e2] at q
          cases ha : (x :: xs).all fun m => mdB CM m n ps.length
          · rw [ha] at q
            walk_at "go"
            exact q
          rw [ha, if_pos rfl] at q
          have l1 : lenD (.lst ps) = ps.length := rfl
          have l2 : lenD (.lst (x :: xs)) = xs.length + 1 := rfl
          rw [l1, l2] at q
          walk_at "go"
          by_cases c1 : 6 < ps.length
          · rw [decide_eq_true (show (6 : Int) < (ps.length : Int) by omega)]
            rw [if_pos (.inl c1)] at q
            walk_at "go"
            exact q
          rw [decide_eq_false (show ¬ (6 : Int) < (ps.length : Int) by omega)]
          walk_at "go"
          by_cases c2 : 40 < xs.length + 1
          · rw [decide_eq_true (show (40 : Int) < ((xs.length + 1 : Nat) : Int) by omega)]
            rw [if_pos (.inr c2)] at q
            walk_at "go"
            exact q
          rw [decide_eq_false (show ¬ (40 : Int) < ((xs.length + 1 : Nat) : Int) by omega)]
          rw [if_neg (by omega)] at q
          walk_at "go"
          refine ⟨Nat.le_of_ble_eq_true rfl, ?_⟩
          walk_at "go"
          refine ⟨Nat.le_of_ble_eq_true rfl, ?_⟩
          walk_at "go"
          exact q
      | _ => first
        | exact absurd rfl hw.1.1
        | exact absurd rfl (hw.1.2 _)
        | (walk_at "go"; exact q)
    | _ => first
      | exact absurd rfl hb.1.1
      | exact absurd rfl (hb.1.2 _)
      | (walk_at "go"; exact q)
  | _ => first
    | exact absurd rfl hm
    | (walk_at "go"; exact q)
abbrev g_Thing_pushes (CT : Addr) : DF := fun ds Q _ => ∃ (m w : D) (ps : List D), ds = [.ins CT (thF m (.lst ps) w)] ∧ Q (.lst ps)
abbrev N_Thing_pushes : List Str := ["self"]
def tb_Thing_pushes (K : PySem.W.Frag) : DS :=
  (dRet (dCB kList (dCons (dFld K "bounds" (dVar 0)) dNil)))
theorem rd_Thing_pushes {K : PySem.W.Frag} {CM CT : Addr} (hK : ThK K CM CT) (ds : List D) (Q E : EQ) (_ : ds.length = 1) (h : g_Thing_pushes CT ds Q E) : tb_Thing_pushes K (dE Q E) (startD N_Thing_pushes ds) := by
  obtain ⟨m, w, ps, rfl, q⟩ := h
  have k2 := hK.f_Thing_bounds
  unfold tb_Thing_pushes dE thF
  walk_at "go"
  exact q
abbrev g_Thing_modes (CT : Addr) : DF := fun ds Q _ => ∃ (m b : D) (ms : List D), ds = [.ins CT (thF m b (.lst ms))] ∧ Q (.lst ms)
abbrev N_Thing_modes : List Str := ["self"]
def tb_Thing_modes (K : PySem.W.Frag) : DS :=
  (dRet (dCB kList (dCons (dFld K "ways" (dVar 0)) dNil)))
theorem rd_Thing_modes {K : PySem.W.Frag} {CM CT : Addr} (hK : ThK K CM CT) (ds : List D) (Q E : EQ) (_ : ds.length = 1) (h : g_Thing_modes CT ds Q E) : tb_Thing_modes K (dE Q E) (startD N_Thing_modes ds) := by
  obtain ⟨m, b, ms, rfl, q⟩ := h
  have k2 := hK.f_Thing_ways
  unfold tb_Thing_modes dE thF
  walk_at "go"
  exact q
end Dl

/-! The D-layer, part 37: reach. -/
namespace Dl
open PySem PySem.Spec
open PyProof.Rows L2
local macro_rules | `(tactic| walk_at "sd") => `(tactic| first | with_reducible assumption | omega | with_reducible rfl | exact (rfl : (_ : Bool) = true) | decide | exact few_of (by decide) | exact divOk_small (by decide) (by decide +kernel) | exact mulOk_r (by omega) (by omega) | exact mulOk_l (by omega) (by omega) | ((with_reducible apply mul_of); (walk_at "bx"); (walk_at "bx"); first | omega | decide) | exact few_of (by simp only [List.length_append, List.length_map, List.length_cons, List.length_nil, tab_len, List.length_replicate]; omega))
/-- lists of so many lists of so many ints -/
def lstL (n w : Nat) (R : Mat) : List D := (List.range n).map fun k => .lst (tabD w (R k))
theorem lstL_len {n w : Nat} {R : Mat} : (lstL n w R).length = n := rng_len
theorem lstL_get {n w k : Nat} {R : Mat} (h : k < n) : (lstL n w R)[k]? = some (.lst (tabD w (R k))) := rng_get h
/-- a row with so many noughts ahead of its bound -/
def widR (w p : Nat) (r : Nat → Int) : Nat → Int := fun j => if j < w then r j else if j < w + p then 0 else r w
theorem tab_app (m n : Nat) (F G : Nat → Int) : tabD m F ++ tabD n G = tabD (m + n) fun j => if j < m then F j else G (j - m) := by
  unfold tabD
  refine List.ext_getElem? fun i => ?_
  by_cases h1 : i < m
  · rw [List.getElem?_append_left (by rw [rng_len]; exact h1), rng_get h1, rng_get (by omega)]
    dsimp only
    rw [if_pos h1]
  · rw [List.getElem?_append_right (by rw [rng_len]; omega), rng_len]
    by_cases h2 : i < m + n
    · rw [rng_get (show i - m < n by omega), rng_get h2]
      dsimp only
      rw [if_neg h1]
    · rw [List.getElem?_eq_none (by rw [rng_len]; omega), List.getElem?_eq_none (by rw [rng_len]; omega)]
theorem cut_tab_init (w : Nat) (r : Nat → Int) : cut (tabD (w + 1) r) none (some (-1)) = tabD w r := by
  unfold tabD
  rw [List.range_succ, List.map_append, List.map_singleton, cut_init]
theorem nf_tab (w : Nat) (r : Nat → Int) : ¬ (HT.sIx (tabD (w + 1) r).length 0 none = 0 ∧ HT.sIx (tabD (w + 1) r).length (tabD (w + 1) r).length (some (-1)) = (tabD (w + 1) r).length) := by
  rintro ⟨-, z⟩
  rw [sIx_m1, tab_len] at z
  omega
theorem tab_ne {w : Nat} {r : Nat → Int} (h : 0 < w) : tabD w r ≠ [] := fun z => by
  have := congrArg List.length z
  rw [tab_len] at this
  cases this
  exact absurd h (Nat.lt_irrefl _)
theorem rep0 (p : Nat) : (List.replicate (p : Int).toNat [D.int 0]).flatten = tabD p fun _ => 0 := by rw [tab_rep, show (p : Int).toNat = p from rfl]
end Dl

local macro_rules | `(tactic| walk_at "sd") => `(tactic| first | with_reducible assumption | omega | with_reducible rfl | exact (rfl : (_ : Bool) = true) | exact (rfl : @Eq (Option D) _ none) | decide | exact few_of (by decide) | exact divOk_small (by decide) (by decide +kernel) | exact mulOk_r (by omega) (by omega) | exact mulOk_l (by omega) (by omega) | ((with_reducible apply mul_of); (walk_at "bx"); (walk_at "bx"); first | omega | decide) | exact few_of (by simp only [List.length_append, List.length_map, List.length_cons, List.length_nil, tab_len, List.length_replicate]; omega))
/-! The D-layer, part 38: standing, reach. -/
namespace Dl
open PySem PySem.Spec
open PyProof.Rows L2
def pD (p : Int × Int) : D := .tup [.int p.1, .int p.2]
/-- a thing's tree, told by its parts -/
def thI (CT : Addr) (n : Nat) (ps : List (Int × Int)) (ms : List D) : D := .ins CT (thF (.int n) (.lst (ps.map pD)) (.lst ms))
/-- a mode's tree -/
structure Md where
  rows : List (Nat → Int)
  nexts : Mat
  steer : Nat → Int
  push : Mat
  add : Nat → Int
  div : Int
def mdI (CM : Addr) (n p : Nat) (m : Md) : D := .ins CM (mdF (.lst (m.rows.map (rowW (n + 1)))) (.lst (lstL n n m.nexts)) (.lst (tabD n m.steer)) (.lst (lstL n p m.push)) (.lst (tabD n m.add)) (.int m.div))
structure okMd (b : Nat) (m : Md) : Prop where
  nexts : ∀ i j, bnd b (m.nexts i j)
  push : ∀ i j, bnd b (m.push i j)
  add : ∀ i, bnd b (m.add i)
  div : bnd b m.div
end Dl

/-! The D-layer, part 39: rows held at points, whatever the bottom is. -/
namespace Dl
open PySem PySem.Spec
open PyProof.Rows L2
def frX (p : Int × Int) : Int × Int := (p.1.fdiv (shr p.1 p.2), p.2.fdiv (shr p.1 p.2))
theorem frX_ok {p : Int × Int} (h : p.2 ≠ 0) : 0 < (frX p).2 ∧ (frX p).1 * p.2 = p.1 * (frX p).2 ∧ (Int.gcd (frX p).1 (frX p).2 : Int) = 1 ∧ (frX p).1.natAbs ≤ p.1.natAbs ∧ (frX p).2.natAbs ≤ p.2.natAbs := by
  obtain ⟨u, v, e, h1, h2, h3, h4, h5⟩ := fr_ex p.1 h
  unfold fr pr at e
  injection e with e
  injection e with e1 e2
  injection e2 with e2 e3
  injection e1 with e1
  injection e2 with e2
  unfold frX
  dsimp only
  rw [e1, e2]
  exact ⟨h1, h2, by rw [h3]; rfl, h4, h5⟩
end Dl

/-! The D-layer, part 40: a dict of one's own, its keys tuples of ints. -/
namespace Dl
open PySem PySem.Spec
open PyProof.Rows L2
/-! ### pairs -/
/-! ### the slot -/
section
variable {X : Cx} {W : WX} {e a b c value : Expr} {t ta te : TD} {pos pos' : Pos}
/-! ### list(x.values()) -/
end
end Dl

/-! The D-layer, part 41: rows by lists: what divides all, lowest form, the tidied room (mathematics). -/
namespace Dl
open PySem PySem.Spec
open PyProof.Rows L2
abbrev Rw := List Int × Int
def fL (l : List Int) : Nat → Int := fun j => l.getD j 0
def gcdI (l : List Int) : Int := gcdL (fL l) l.length
def lowI (l : List Int) : List Int := if gcdI l = 0 then l else l.map (·.fdiv (gcdI l))
theorem gcdI_nn (l : List Int) : 0 ≤ gcdI l := gcdL_nn _ _
/-! ### a row's lowest form -/
/-- whether the first row lets less by -/
def narI (r o : Rw) : Bool := decide (r.2 * gcdI o.1 < o.2 * gcdI r.1)
/-! ### the tidied room -/
abbrev TS := List (List Int × Rw) × List Rw
def valR : List (List Int × Rw) → List Int → Option Rw
  | [], _ => none
  | p :: r, k => if p.1 = k then some p.2 else valR r k
def putR (kvs : List (List Int × Rw)) (k : List Int) (y : Rw) : List (List Int × Rw) :=
  if (valR kvs k).isSome = true then kvs.map (fun p => if p.1 = k then (p.1, y) else p) else kvs ++ [(k, y)]
def tstep (st : TS) (r : Rw) : TS :=
  if gcdI r.1 = 0 then (if r.2 < 0 then (st.1, [(r.1, -1)]) else st)
  else match valR st.1 (lowI r.1) with
    | none => (st.1 ++ [(lowI r.1, r)], st.2)
    | some o => if narI r o = true then (putR st.1 (lowI r.1) r, st.2) else st
theorem valR_some {kvs : List (List Int × Rw)} {k : List Int} {o : Rw} (h : valR kvs k = some o) : (k, o) ∈ kvs := by
  induction kvs with
  | nil => cases h
  | cons p r ih =>
    unfold valR at h
    by_cases e : p.1 = k
    · rw [if_pos e] at h
      cases h
      subst e
      exact List.mem_cons_self
    · rw [if_neg e] at h
      exact List.mem_cons_of_mem _ (ih h)
theorem valR_none {kvs : List (List Int × Rw)} {k : List Int} (h : valR kvs k = none) : ∀ p ∈ kvs, p.1 ≠ k := by
  induction kvs with
  | nil => intro p hp; cases hp
  | cons q r ih =>
    unfold valR at h
    by_cases e : q.1 = k
    · rw [if_pos e] at h; cases h
    · rw [if_neg e] at h
      intro p hp
      rcases List.mem_cons.mp hp with rfl | hp
      · exact e
      · exact ih h p hp
theorem valR_of {kvs : List (List Int × Rw)} {k : List Int} {o : Rw} (hn : (kvs.map (·.1)).Nodup) (h : (k, o) ∈ kvs) : valR kvs k = some o := by
  induction kvs with
  | nil => cases h
  | cons p r ih =>
    rw [List.map_cons, List.nodup_cons] at hn
    unfold valR
    rcases List.mem_cons.mp h with e | h
    · subst e; rw [if_pos rfl]
    · rw [if_neg (fun e => hn.1 (List.mem_map.mpr ⟨_, h, e.symm⟩))]
      exact ih hn.2 h
theorem putR_keys {kvs : List (List Int × Rw)} {k : List Int} {o y : Rw} (h : valR kvs k = some o) : (putR kvs k y).map (·.1) = kvs.map (·.1) := by
  unfold putR
  rw [h, if_pos (show (some o).isSome = true from rfl), List.map_map]
  exact List.map_congr_left fun p _ => by
    show (if p.1 = k then (p.1, y) else p).1 = p.1
    split <;> rfl
/-- what the tidied room keeps -/
structure TOk (st : TS) (rl : List Rw) : Prop where
  nd : (st.1.map (·.1)).Nodup
  of : ∀ p ∈ st.1, p.1 = lowI p.2.1 ∧ gcdI p.2.1 ≠ 0 ∧ p.2 ∈ rl
  sh : st.2 = [] ∨ ∃ r ∈ rl, gcdI r.1 = 0 ∧ r.2 < 0 ∧ st.2 = [(r.1, -1)]
  has : ∀ r ∈ rl, gcdI r.1 ≠ 0 → ∃ o, (lowI r.1, o) ∈ st.1 ∧ o.2 * gcdI r.1 ≤ r.2 * gcdI o.1
  shut : ∀ r ∈ rl, gcdI r.1 = 0 → r.2 < 0 → st.2 ≠ []
theorem narI_t {r o : Rw} (h : narI r o = true) : r.2 * gcdI o.1 < o.2 * gcdI r.1 := of_decide_eq_true h
theorem narI_f {r o : Rw} (h : narI r o = false) : o.2 * gcdI r.1 ≤ r.2 * gcdI o.1 := by have := of_decide_eq_false h; omega
theorem TOk.step {st : TS} {rl : List Rw} (t : TOk st rl) (r : Rw) : TOk (tstep st r) (rl ++ [r]) := by
  have inl : ∀ {x : Rw}, x ∈ rl → x ∈ rl ++ [r] := fun h => List.mem_append_left _ h
  have inr : r ∈ rl ++ [r] := List.mem_append_right _ List.mem_cons_self
  have cs : ∀ {x : Rw}, x ∈ rl ++ [r] → x ∈ rl ∨ x = r := fun {x} h => by
    rcases List.mem_append.mp h with h | h
    · exact .inl h
    · exact .inr (List.mem_singleton.mp h)
  have sh1 : st.2 = [] ∨ ∃ x ∈ rl ++ [r], gcdI x.1 = 0 ∧ x.2 < 0 ∧ st.2 = [(x.1, -1)] := t.sh.elim .inl fun ⟨x, h, q⟩ => .inr ⟨x, inl h, q⟩
  unfold tstep
  by_cases h0 : gcdI r.1 = 0
  · rw [if_pos h0]
    by_cases hb : r.2 < 0
    · rw [if_pos hb]
      refine ⟨t.nd, fun p hp => ?_, .inr ⟨r, inr, h0, hb, rfl⟩, fun x hx hg => ?_, fun _ _ _ _ z => nomatch (show [(r.1, -1)] = ([] : List Rw) from z)⟩
      · obtain ⟨a, b, c⟩ := t.of p hp; exact ⟨a, b, inl c⟩
      · rcases cs hx with hx | rfl
        · exact t.has x hx hg
        · exact absurd h0 hg
    · rw [if_neg hb]
      refine ⟨t.nd, fun p hp => ?_, sh1, fun x hx hg => ?_, fun x hx hg hz => ?_⟩
      · obtain ⟨a, b, c⟩ := t.of p hp; exact ⟨a, b, inl c⟩
      · rcases cs hx with hx | rfl
        · exact t.has x hx hg
        · exact absurd h0 hg
      · rcases cs hx with hx | rfl
        · exact t.shut x hx hg hz
        · exact absurd hz hb
  · rw [if_neg h0]
    have shut1 : ∀ x ∈ rl ++ [r], gcdI x.1 = 0 → x.2 < 0 → st.2 ≠ [] := fun x hx hg hz => by
      rcases cs hx with hx | rfl
      · exact t.shut x hx hg hz
      · exact absurd hg h0
    cases hv : valR st.1 (lowI r.1) with
    | none =>
      dsimp only
      refine ⟨?_, fun p hp => ?_, sh1, fun x hx hg => ?_, shut1⟩
      · rw [List.map_append, List.nodup_append]
        refine ⟨t.nd, List.nodup_cons.mpr ⟨List.not_mem_nil, List.nodup_nil⟩, fun a ha b hb => ?_⟩
        obtain ⟨p, hp, rfl⟩ := List.mem_map.mp ha
        rw [List.mem_singleton.mp hb]
        exact valR_none hv p hp
      · rcases List.mem_append.mp hp with hp | hp
        · obtain ⟨a, b, c⟩ := t.of p hp; exact ⟨a, b, inl c⟩
        · rw [List.mem_singleton.mp hp]
          exact ⟨rfl, h0, inr⟩
      · rcases cs hx with hx | rfl
        · obtain ⟨o, a, b⟩ := t.has x hx hg
          exact ⟨o, List.mem_append_left _ a, b⟩
        · exact ⟨x, List.mem_append_right _ List.mem_cons_self, Int.le_refl _⟩
    | some o =>
      dsimp only
      have ho := valR_some hv
      obtain ⟨o1, o2, o3⟩ := t.of _ ho
      have o2 : gcdI o.1 ≠ 0 := o2
      cases hn : narI r o with
      | false =>
        rw [if_neg Bool.false_ne_true]
        refine ⟨t.nd, fun p hp => ?_, sh1, fun x hx hg => ?_, shut1⟩
        · obtain ⟨a, b, c⟩ := t.of p hp; exact ⟨a, b, inl c⟩
        · rcases cs hx with hx | rfl
          · exact t.has x hx hg
          · exact ⟨o, ho, narI_f hn⟩
      | true =>
        rw [if_pos rfl]
        refine ⟨?_, fun p hp => ?_, sh1, fun x hx hg => ?_, shut1⟩
        · show ((putR st.1 (lowI r.1) r).map (·.1)).Nodup
          rw [putR_keys hv]; exact t.nd
        · have hp : p ∈ putR st.1 (lowI r.1) r := hp
          unfold putR at hp
          rw [hv, if_pos (show (some o).isSome = true from rfl)] at hp
          obtain ⟨q, hq, rfl⟩ := List.mem_map.mp hp
          by_cases e : q.1 = lowI r.1
          · rw [if_pos e]; exact ⟨e, h0, inr⟩
          · rw [if_neg e]; obtain ⟨a, b, c⟩ := t.of q hq; exact ⟨a, b, inl c⟩
        · have hr : (lowI r.1, r) ∈ putR st.1 (lowI r.1) r := by
            unfold putR
            rw [hv, if_pos (show (some o).isSome = true from rfl)]
            exact List.mem_map.mpr ⟨_, ho, by rw [if_pos rfl]⟩
          rcases cs hx with hx | rfl
          · obtain ⟨o', a, b⟩ := t.has x hx hg
            by_cases e : lowI x.1 = lowI r.1
            · refine ⟨r, e ▸ hr, ?_⟩
              have e2 : o' = o := by
                have := valR_of t.nd a
                rw [e, hv] at this
                cases this; rfl
              subst e2
              have hn := narI_t hn
              have g0 : 0 < gcdI o'.1 := by have := gcdI_nn o'.1; omega
              have g1 : 0 < gcdI x.1 := by have := gcdI_nn x.1; omega
              have g2 : 0 < gcdI r.1 := by have := gcdI_nn r.1; omega
              have s1 := Int.mul_le_mul_of_nonneg_left (Int.le_of_lt hn) (Int.le_of_lt g1)
              have s2 := Int.mul_le_mul_of_nonneg_left b (Int.le_of_lt g2)
              refine Int.le_of_mul_le_mul_left (a := gcdI o'.1) ?_ g0
              have e1 : gcdI o'.1 * (r.2 * gcdI x.1) = gcdI x.1 * (r.2 * gcdI o'.1) := by grind
              have e2 : gcdI x.1 * (o'.2 * gcdI r.1) = gcdI r.1 * (o'.2 * gcdI x.1) := by grind
              have e3 : gcdI r.1 * (x.2 * gcdI o'.1) = gcdI o'.1 * (x.2 * gcdI r.1) := by grind
              rw [e1, ← e3]
              exact Int.le_trans s1 (by rw [e2]; exact s2)
            · refine ⟨o', ?_, b⟩
              show _ ∈ putR st.1 (lowI r.1) r
              unfold putR
              rw [hv, if_pos (show (some o).isSome = true from rfl)]
              exact List.mem_map.mpr ⟨_, a, by rw [if_neg e]⟩
          · exact ⟨x, hr, Int.le_refl _⟩
/-! ### tidied again -/
/-! ### points -/
end Dl

/-! The D-layer, part 42: direction, narrower, tidied. -/
namespace Dl
open PySem PySem.Spec
open PyProof.Rows L2
end Dl

/-! The D-layer, part 43: what the laws draw: numbers, boxes, rows of boxes. -/
namespace Dl
open PySem PySem.Spec
open PyProof.Rows L2
/-! ### of use everywhere -/
theorem compL_fun {α : Type} {g : DG} {tt : TDb} {te : TD} {ρ : Env'} {Q : List D → Prop} (f F : α → D) (xs : List α)
    (h : ∀ x ∈ xs, ∀ (K1 : D → Prop) (K0 : Prop), K1 (F x) → g (f x) ρ fun ρ2 => tt ρ2 (fun b => ifP b (te ρ2 K1 (fun _ => False)) K0) fun _ => False)
    (q : Q (xs.map F)) : compL g tt te ρ Q (xs.map f) [] := by
  have go : ∀ (xs : List α) (acc : List D), (∀ x ∈ xs, ∀ (K1 : D → Prop) (K0 : Prop), K1 (F x) → g (f x) ρ fun ρ2 => tt ρ2 (fun b => ifP b (te ρ2 K1 (fun _ => False)) K0) fun _ => False) →
      Q (acc ++ xs.map F) → compR g tt te ρ Q (xs.map f) acc := by
    intro xs
    induction xs with
    | nil => intro acc _ q; rw [List.map_nil, List.append_nil] at q; exact q
    | cons x xs ih =>
      intro acc h q
      refine h x List.mem_cons_self _ _ (ih _ (fun e he => h e (List.mem_cons_of_mem _ he)) ?_)
      rw [List.append_assoc]
      exact q
  exact ⟨go xs [] h q⟩
/-! ### boxes -/
end Dl

/-! The D-layer, part 44: modes and things drawn. -/
namespace Dl
open PySem PySem.Spec
open PyProof.Rows L2
theorem lstL_snoc (k w : Nat) (R : Mat) (r : Nat → Int) : lstL k w R ++ [.lst (tabD w r)] = lstL (k + 1) w fun i => if i = k then r else R i := by
  unfold lstL
  rw [List.range_succ, List.map_append]
  congr 1
  · refine rng_congr fun i hi => ?_
    dsimp only
    rw [if_neg (by omega)]
  · show _ = [D.lst (tabD w (if k = k then r else R k))]
    rw [if_pos rfl]
structure okSM (m : Md) : Prop where
  nexts : ∀ i j, bnd 3 (m.nexts i j)
  push : ∀ i j, bnd 2 (m.push i j)
  add : ∀ i, bnd 103 (m.add i)
  div : 2 ≤ m.div ∧ m.div ≤ 5
  steer : m.steer = fun _ => 0
  rows : ∀ r ∈ m.rows, ∀ j, bnd 103 (r j)
/-! ### things drawn -/
structure okSpec (n : Nat) (ps : List (Int × Int)) (ms : List Md) (u : Int) : Prop where
  n1 : 1 ≤ n
  n3 : n ≤ 3
  pl : ps.length ≤ 2
  pb : ∀ p ∈ ps, p.1 ≤ 0 ∧ 0 ≤ p.2 ∧ bnd 103 p.1 ∧ bnd 103 p.2
  ml : 1 ≤ ms.length ∧ ms.length ≤ 3
  mo : ∀ m ∈ ms, okSM m
  sp : (∀ m ∈ ms, m.rows = []) ∨ ∀ m ∈ ms, ∃ r, m.rows = [r]
  u1 : 1 ≤ u
  u2 : u ≤ 10 ^ 30
end Dl

/-! The D-layer, part 45: right things made. -/
namespace Dl
open PySem PySem.Spec
open PyProof.Rows L2
theorem kn_lst (l : List D) : knD (.lst l) := ⟨(fun z => nomatch z), (fun _ z => nomatch z)⟩
theorem kn_int (z : Int) : knD (.int z) := ⟨(fun z => nomatch z), (fun _ z => nomatch z)⟩
theorem kn_tup (l : List D) : knD (.tup l) := ⟨(fun z => nomatch z), (fun _ z => nomatch z)⟩
theorem ko_tab (n : Nat) (r : Nat → Int) : ko (.lst (tabD n r)) := ⟨kn_lst _, fun xs e x hx => by cases e; obtain ⟨i, hi⟩ := List.getElem?_of_mem hx; rw [(tab_inv hi).2]; exact kn_int _⟩
theorem ko_lstL (n w : Nat) (R : Mat) : ko (.lst (lstL n w R)) := ⟨kn_lst _, fun xs e x hx => by cases e; obtain ⟨i, hi⟩ := List.getElem?_of_mem hx; rw [(rng_inv hi).2]; exact kn_lst _⟩
theorem ko_rows (w : Nat) (rs : List (Nat → Int)) : ko (.lst (rs.map (rowW w))) := ⟨kn_lst _, fun xs e x hx => by cases e; obtain ⟨r, _, rfl⟩ := List.mem_map.mp hx; exact kn_tup _⟩
theorem kw_tab (n : Nat) (r : Nat → Int) : kw (.lst (tabD n r)) := ⟨kn_lst _, fun xs e x hx => by
  have e : tabD n r = xs := by rcases e with e | e <;> cases e; rfl
  subst e
  obtain ⟨i, hi⟩ := List.getElem?_of_mem hx
  rw [(tab_inv hi).2]
  exact fun z => nomatch z⟩
theorem kw_row (n : Nat) (r : Nat → Int) : kw (rowW n r) := ⟨kn_tup _, fun xs e x hx => by
  have e : tabD n r = xs := by rcases e with e | e <;> cases e; rfl
  subst e
  obtain ⟨i, hi⟩ := List.getElem?_of_mem hx
  rw [(tab_inv hi).2]
  exact fun z => nomatch z⟩
theorem kws_rows (w : Nat) (rs : List (Nat → Int)) : kws (.lst (rs.map (rowW w))) := ⟨kn_lst _, fun xs e x hx => by cases e; obtain ⟨r, _, rfl⟩ := List.mem_map.mp hx; exact kw_row _ _⟩
theorem kws_lstL (n w : Nat) (R : Mat) : kws (.lst (lstL n w R)) := ⟨kn_lst _, fun xs e x hx => by cases e; obtain ⟨i, hi⟩ := List.getElem?_of_mem hx; rw [(rng_inv hi).2]; exact kw_tab _ _⟩
theorem wh_tab (n : Nat) (r : Nat → Int) : (tabD n r).all isWhB = true := by
  rw [List.all_eq_true]
  intro d hd
  obtain ⟨i, hi⟩ := List.getElem?_of_mem hd
  rw [(tab_inv hi).2]
  rfl
theorem aw_tab (n : Nat) (r : Nat → Int) : awB (.lst (tabD n r)) n = true := by
  show (decide (((tabD n r).length : Int) = (n : Int)) && (tabD n r).all isWhB) = true
  rw [tab_len, wh_tab, decide_eq_true rfl]
  rfl
theorem rw_row (n : Nat) (r : Nat → Int) : rwB (rowW (n + 1) r) n = true := by
  show (decide (((tabD (n + 1) r).length : Int) = (n : Int) + 1) && (tabD (n + 1) r).all isWhB) = true
  rw [tab_len, wh_tab, decide_eq_true (by omega)]
  rfl
theorem rm_rows (n : Nat) (rs : List (Nat → Int)) : rmB (.lst (rs.map (rowW (n + 1)))) n = true := by
  show (rs.map (rowW (n + 1))).all (fun r => rwB r n) = true
  rw [List.all_eq_true]
  intro d hd
  obtain ⟨r, _, rfl⟩ := List.mem_map.mp hd
  exact rw_row n r
theorem tb_lstL (n w : Nat) (R : Mat) : tbB (.lst (lstL n w R)) n w = true := by
  show (decide (((lstL n w R).length : Int) = (n : Int)) && (lstL n w R).all fun r => awB r w) = true
  rw [lstL_len, decide_eq_true rfl, Bool.true_and, List.all_eq_true]
  intro d hd
  obtain ⟨i, hi⟩ := List.getElem?_of_mem hd
  rw [(rng_inv hi).2]
  exact aw_tab w _
theorem kM_md (CM : Addr) (n p : Nat) (m : Md) : kM CM (mdI CM n p m) := .inl ⟨_, _, _, _, _, _, rfl, kws_rows _ _, kws_lstL _ _ _, kw_tab _ _, kws_lstL _ _ _, kw_tab _ _, fun z => nomatch z⟩
theorem mdB_md (CM : Addr) (n p : Nat) (m : Md) (hd : 1 ≤ m.div) : mdB CM (mdI CM n p m) n p = true := by
  show (decide (CM = CM) && (rmB (.lst (m.rows.map (rowW (n + 1)))) n && tbB (.lst (lstL n n m.nexts)) n n && awB (.lst (tabD n m.steer)) n && tbB (.lst (lstL n p m.push)) n p && awB (.lst (tabD n m.add)) n && dvB (.int m.div))) = true
  rw [rm_rows, tb_lstL, aw_tab, tb_lstL, aw_tab, decide_eq_true rfl, show dvB (.int m.div) = true from decide_eq_true hd]
  rfl
theorem kPs_pD (ps : List (Int × Int)) : kPs (.lst (ps.map pD)) := ⟨kn_lst _, fun xs e x hx => by
  cases e
  obtain ⟨q, _, rfl⟩ := List.mem_map.mp hx
  exact ⟨kn_tup _, fun a b e => by cases e; exact ⟨(fun z => nomatch z), (fun z => nomatch z)⟩⟩⟩
theorem psB_pD (ps : List (Int × Int)) (h : ∀ q ∈ ps, q.1 ≤ q.2) : psB' (.lst (ps.map pD)) = true := by
  show (ps.map pD).all psB = true
  rw [List.all_eq_true]
  intro d hd
  obtain ⟨q, hq, rfl⟩ := List.mem_map.mp hd
  exact decide_eq_true (h q hq)
/-- a right thing is made -/
theorem thing_ok {CM : Addr} {n : Nat} {ps : List (Int × Int)} {ms : List Md} (n1 : 1 ≤ n) (n3 : n ≤ 3) (p6 : ps.length ≤ 6) (hp : ∀ q ∈ ps, q.1 ≤ q.2) (m1 : ms ≠ []) (m40 : ms.length ≤ 40) (hd : ∀ m ∈ ms, 1 ≤ m.div) :
    isWh (.int n) ≠ none ∧ kPs (.lst (ps.map pD)) ∧ kMs CM (.lst (ms.map (mdI CM n ps.length))) ∧ thB CM (.int n) (.lst (ps.map pD)) (.lst (ms.map (mdI CM n ps.length))) = true ∧ ¬ (6 < lenD (.lst (ps.map pD)) ∨ 40 < lenD (.lst (ms.map (mdI CM n ps.length)))) := by
  refine ⟨(fun z => nomatch z), kPs_pD ps, ⟨kn_lst _, fun xs e x hx => by cases e; obtain ⟨m, _, rfl⟩ := List.mem_map.mp hx; exact kM_md CM n _ m⟩, ?_, ?_⟩
  have h1 : thB CM (.int n) (.lst (ps.map pD)) (.lst (ms.map (mdI CM n ps.length))) = true := by
    unfold thB
    have a1 : manyB (.int n) = true := by
      show (decide (1 ≤ (n : Int)) && decide ((n : Int) ≤ 3)) = true
      rw [decide_eq_true (by omega), decide_eq_true (by omega)]; rfl
    rw [a1, psB_pD ps hp, Bool.true_and, Bool.true_and]
    show msB CM (n : Int) (.lst (ms.map (mdI CM n ps.length))) ((ps.map pD).length : Int) = true
    rw [List.length_map]
    cases ms with
    | nil => exact absurd rfl m1
    | cons m ms =>
      show ((m :: ms).map (mdI CM n ps.length)).all (fun d => mdB CM d n ps.length) = true
      rw [List.all_eq_true]
      intro d hd'
      obtain ⟨m', hm', rfl⟩ := List.mem_map.mp hd'
      exact mdB_md CM n _ m' (hd m' hm')
  · exact h1
  · show ¬ (6 < (ps.map pD).length ∨ 40 < (ms.map (mdI CM n ps.length)).length)
    rw [List.length_map, List.length_map]
    omega
end Dl

/-! The D-layer, part 46: list(range(n)). -/
namespace Dl
open PySem PySem.Spec
open PyProof.Rows L2
section
variable {X : Cx} {W : WX} {a : Expr} {ta : TD}
end
end Dl

/-! The D-layer, part 47: the most: choices, equations for shares. -/
namespace Dl
open PySem PySem.Spec
open PyProof.Rows L2
/-! ### fractions made whole -/
/-! ### rows added -/
end Dl

/-! The D-layer, part 48: the most: shares by picked rows. -/
namespace Dl
open PySem PySem.Spec
open PyProof.Rows L2
structure okPk (m n b : Nat) (R : Mat) (P : List Nat) : Prop where
  n3 : n ≤ 3
  m14 : m ≤ 14
  nd : P.Nodup
  lt : ∀ k ∈ P, k < m
  p4 : P.length ≤ 4
  R : ∀ i j, bnd b (R i j)
  pn : P.length ≤ n + 1
  e3 : eb b n ≤ 1300
end Dl

/-! The D-layer, part 49: the most: rings. -/
namespace Dl
open PySem PySem.Spec
open PyProof.Rows L2
end Dl

/-! The D-layer, part 50: the most: empty rooms. -/
namespace Dl
open PySem PySem.Spec
open PyProof.Rows L2
/-! ### empty rooms -/
structure okRm (m n b : Nat) (R : Mat) : Prop where
  n1 : 1 ≤ n
  n3 : n ≤ 3
  m14 : m ≤ 14
  R : ∀ i j, bnd b (R i j)
  e3 : eb b n ≤ 1300
  b5 : b ≤ 5000
end Dl

/-! The D-layer, part 51: rows along points of at most three greater numbers (from parts 16 to 19, by a program). -/
namespace Dl
open PySem PySem.Spec
open PyProof.Rows L2
end Dl

/-! The D-layer, part 52: corners. -/
namespace Dl
open PySem PySem.Spec
open PyProof.Rows L2
/-! ### corners -/
def tabI (n : Nat) (r : Nat → Int) : List Int := (List.range n).map r
def liesB (m n : Nat) (R : Mat) (ps : List (Int × Int)) : Bool := ((List.range m).map fun k => (tabI n (R k), R k n)).all fun r => hld r.1 r.2 ps
end Dl

/-! The D-layer, part 53: the way out. -/
namespace Dl
open PySem PySem.Spec
open PyProof.Rows L2
/-! ### the way out -/
end Dl

/-! The D-layer, part 54: the least bound of shares. -/
namespace Dl
open PySem PySem.Spec
open PyProof.Rows L2
/-! ### the least bound of shares -/
def lsV (m n : Nat) (R : Mat) (s : Int × (Nat → Int)) : Int × Int := frX (dot (fun i => R i n) s.2 m, s.1)
def okSh (s : Int × (Nat → Int)) : Prop := 0 < s.1 ∧ bnd 4000 s.1 ∧ ∀ j, bnd 5300 (s.2 j)
end Dl

/-! Linear inequalities over the rationals, part 1: a system has a point, or a sum of its rows shows that it has none. -/
namespace Lp
abbrev V := Nat → Rat
abbrev Row := V × Rat
def qd (a x : V) : Nat → Rat
  | 0 => 0
  | n + 1 => qd a x n + a n * x n
theorem qd_congr {a b x y : V} : ∀ {n : Nat}, (∀ j, j < n → a j = b j) → (∀ j, j < n → x j = y j) → qd a x n = qd b y n
  | 0, _, _ => rfl
  | n + 1, h, k => by
    unfold qd
    rw [qd_congr (n := n) (fun j hj => h j (by omega)) fun j hj => k j (by omega), h n (by omega), k n (by omega)]
theorem qd_lin (c : Rat) (a b x : V) : ∀ n, qd (fun j => c * a j + b j) x n = c * qd a x n + qd b x n
  | 0 => by unfold qd; grind
  | n + 1 => by unfold qd; rw [qd_lin c a b x n]; grind
theorem qd_lin_r (c : Rat) (a x y : V) : ∀ n, qd a (fun j => x j + c * y j) n = qd a x n + c * qd a y n
  | 0 => by unfold qd; grind
  | n + 1 => by unfold qd; rw [qd_lin_r c a x y n]; grind
theorem qd_zero {a x : V} : ∀ {n : Nat}, (∀ j, j < n → a j = 0) → qd a x n = 0
  | 0, _ => rfl
  | n + 1, h => by unfold qd; rw [qd_zero (n := n) fun j hj => h j (by omega), h n (by omega)]; grind
def hold (n : Nat) (r : Row) (x : V) : Prop := qd r.1 x n ≤ r.2
def cmb (c : Rat) (r s : Row) : Row := (fun j => c * r.1 j + s.1 j, c * r.2 + s.2)
/-- sums of rows, each so many times, none a negative number of times -/
inductive Nn (L : List Row) : Row → Prop
  | zero : Nn L (fun _ => 0, 0)
  | add {c : Rat} {r s : Row} : r ∈ L → 0 ≤ c → Nn L s → Nn L (cmb c r s)
theorem Nn.eq {L : List Row} {s t : Row} (h : Nn L s) (e1 : s.1 = t.1) (e2 : s.2 = t.2) : Nn L t := by
  have : s = t := Prod.ext e1 e2
  exact this ▸ h
theorem Nn.plus {L : List Row} {s t : Row} (h : Nn L s) (k : Nn L t) : Nn L (fun j => s.1 j + t.1 j, s.2 + t.2) := by
  induction h with
  | zero => exact k.eq (funext fun j => by show t.1 j = 0 + t.1 j; grind) (by show t.2 = 0 + t.2; grind)
  | add hr hc hs ih => exact (Nn.add hr hc ih).eq (funext fun j => by unfold cmb; dsimp only; grind) (by unfold cmb; dsimp only; grind)
theorem Nn.scale {L : List Row} {s : Row} {c : Rat} (hc : 0 ≤ c) (h : Nn L s) : Nn L (fun j => c * s.1 j, c * s.2) := by
  induction h with
  | zero => exact Nn.zero.eq (funext fun j => by show 0 = c * 0; grind) (by show 0 = c * 0; grind)
  | @add d r s hr hd hs ih =>
    exact (Nn.add (c := c * d) hr (Rat.mul_nonneg hc hd) ih).eq (funext fun j => by unfold cmb; dsimp only; grind) (by unfold cmb; dsimp only; grind)
theorem Nn.mem {L : List Row} {r : Row} (h : r ∈ L) : Nn L r :=
  (Nn.add (c := 1) h (by decide) Nn.zero).eq (funext fun j => by unfold cmb; dsimp only; grind) (by unfold cmb; dsimp only; grind)
theorem Nn.trans {L L' : List Row} {s : Row} (h : Nn L' s) (k : ∀ r ∈ L', Nn L r) : Nn L s := by
  induction h with
  | zero => exact .zero
  | @add c r s hr hc hs ih => exact ((Nn.scale hc (k r hr)).plus ih).eq rfl rfl
theorem Nn.at_zero {L : List Row} {s : Row} {j : Nat} (h : Nn L s) (k : ∀ r ∈ L, r.1 j = 0) : s.1 j = 0 := by
  induction h with
  | zero => rfl
  | @add c r s hr hc hs ih => unfold cmb; dsimp only; rw [k r hr, ih]; grind
/-- what holds all rows holds their sums -/
theorem Nn.holds {L : List Row} {s : Row} {n : Nat} {x : V} (h : Nn L s) (k : ∀ r ∈ L, hold n r x) : hold n s x := by
  induction h with
  | zero => unfold hold; rw [qd_zero fun _ _ => rfl]; exact Rat.le_refl
  | @add c r s hr hc hs ih =>
    unfold hold cmb at *
    dsimp only
    rw [qd_lin]
    have h1 := Rat.mul_le_mul_of_nonneg_left (k r hr) hc
    grind
/-- between lower and upper numbers there is one -/
theorem top_of : ∀ (l : List Rat), l ≠ [] → ∃ m ∈ l, ∀ x ∈ l, x ≤ m
  | [x], _ => ⟨x, List.mem_cons_self, fun y hy => by rw [List.mem_singleton.mp hy]; exact Rat.le_refl⟩
  | x :: y :: l, _ => by
    obtain ⟨m, hm, h⟩ := top_of (y :: l) (fun z => nomatch z)
    by_cases e : x ≤ m
    · exact ⟨m, List.mem_cons_of_mem _ hm, fun z hz => (List.mem_cons.mp hz).elim (fun q => q ▸ e) (h z)⟩
    · exact ⟨x, List.mem_cons_self, fun z hz => (List.mem_cons.mp hz).elim (fun q => by rw [q]; exact Rat.le_refl) fun q => by have := h z q; grind⟩
theorem low_of (l : List Rat) (h : l ≠ []) : ∃ m ∈ l, ∀ x ∈ l, m ≤ x := by
  obtain ⟨m, hm, k⟩ := top_of (l.map (- ·)) (fun z => h (List.map_eq_nil_iff.mp z))
  obtain ⟨y, hy, rfl⟩ := List.mem_map.mp hm
  exact ⟨y, hy, fun x hx => by have := k (-x) (List.mem_map.mpr ⟨x, hx, rfl⟩); grind⟩
theorem between (ls us : List Rat) (h : ∀ l ∈ ls, ∀ u ∈ us, l ≤ u) : ∃ t, (∀ l ∈ ls, l ≤ t) ∧ ∀ u ∈ us, t ≤ u := by
  by_cases e : ls = []
  · subst e
    by_cases f : us = []
    · subst f; exact ⟨0, (fun l hl => nomatch hl), (fun u hu => nomatch hu)⟩
    · obtain ⟨m, hm, k⟩ := low_of us f
      exact ⟨m, (fun l hl => nomatch hl), k⟩
  · obtain ⟨m, hm, k⟩ := top_of ls e
    exact ⟨m, k, fun u hu => h m hm u hu⟩
def fmL (n : Nat) (L : List Row) : List Row :=
  L.filter (fun r => decide (r.1 n = 0)) ++ (L.filter fun r => decide (0 < r.1 n)).flatMap fun p => (L.filter fun r => decide (r.1 n < 0)).map fun q =>
    (fun j => p.1 n * q.1 j + -(q.1 n) * p.1 j, p.1 n * q.2 + -(q.1 n) * p.2)
theorem fmL_nn {n : Nat} {L : List Row} : ∀ r ∈ fmL n L, Nn L r ∧ r.1 n = 0 := fun r hr => by
  unfold fmL at hr
  rcases List.mem_append.mp hr with hr | hr
  · obtain ⟨h1, h2⟩ := List.mem_filter.mp hr
    exact ⟨.mem h1, of_decide_eq_true h2⟩
  · obtain ⟨p, hp, hr⟩ := List.mem_flatMap.mp hr
    obtain ⟨q, hq, rfl⟩ := List.mem_map.mp hr
    obtain ⟨p1, p2⟩ := List.mem_filter.mp hp
    obtain ⟨q1, q2⟩ := List.mem_filter.mp hq
    have p2 := of_decide_eq_true p2
    have q2 := of_decide_eq_true q2
    refine ⟨((Nn.scale (c := p.1 n) (by grind) (.mem q1)).plus (Nn.scale (c := -(q.1 n)) (by grind) (.mem p1))), ?_⟩
    dsimp only
    grind
theorem fm_arith {a b c d f g u v : Rat} (hh : d * a + -c * b ≤ d * f + -c * g) (e1 : u * c = f - a) (e3 : v * d = g - b) (hc : c < 0) (hd : 0 < d) : u ≤ v := by
  refine Classical.byContradiction fun z => ?_
  have z : 0 < u - v := by grind
  have m : 0 < (u - v) * (d * -c) := Rat.mul_pos z (Rat.mul_pos hd (by grind))
  have k : d * (f - a) + -c * (g - b) = -((u - v) * (d * -c)) := by rw [← e1, ← e3]; grind
  grind
theorem fmL_point {n : Nat} {L : List Row} {x : V} (h : ∀ r ∈ fmL n L, hold n r x) : ∃ t, ∀ r ∈ L, qd r.1 x n + r.1 n * t ≤ r.2 := by
  obtain ⟨t, h1, h2⟩ := between ((L.filter fun r => decide (r.1 n < 0)).map fun q => (q.2 - qd q.1 x n) / q.1 n) ((L.filter fun r => decide (0 < r.1 n)).map fun p => (p.2 - qd p.1 x n) / p.1 n) (fun l hl u hu => by
    obtain ⟨q, hq, rfl⟩ := List.mem_map.mp hl
    obtain ⟨p, hp, rfl⟩ := List.mem_map.mp hu
    have hh := h _ (List.mem_append_right _ (List.mem_flatMap.mpr ⟨p, hp, List.mem_map.mpr ⟨q, hq, rfl⟩⟩))
    have p2 : 0 < p.1 n := of_decide_eq_true (List.mem_filter.mp hp).2
    have q2 : q.1 n < 0 := of_decide_eq_true (List.mem_filter.mp hq).2
    unfold hold at hh
    dsimp only at hh
    rw [qd_lin (p.1 n) q.1 (fun j => -(q.1 n) * p.1 j) x n] at hh
    have e : qd (fun j => -(q.1 n) * p.1 j) x n = -(q.1 n) * qd p.1 x n := by
      have := qd_lin (-(q.1 n)) p.1 (fun _ => 0) x n
      rw [qd_zero (a := fun _ => 0) fun _ _ => rfl] at this
      have e2 : (fun j => -(q.1 n) * p.1 j + (fun _ => (0 : Rat)) j) = fun j => -(q.1 n) * p.1 j := funext fun j => by dsimp only; grind
      rw [e2] at this
      grind
    rw [e] at hh
    generalize qd q.1 x n = a at *
    generalize qd p.1 x n = b at *
    generalize q.1 n = c at *
    generalize p.1 n = d at *
    generalize q.2 = f at *
    generalize p.2 = g at *
    -- d (f - a) >= -c (b - g) .. over c, d
    have e1 : (f - a) / c * c = f - a := by grind
    have e3 : (g - b) / d * d = g - b := by grind
    exact fm_arith hh e1 e3 q2 p2)
  refine ⟨t, fun r hr => ?_⟩
  by_cases e : r.1 n = 0
  · have := h r (List.mem_append_left _ (List.mem_filter.mpr ⟨hr, decide_eq_true e⟩))
    unfold hold at this
    rw [e]
    grind
  by_cases f : 0 < r.1 n
  · have := h2 _ (List.mem_map.mpr ⟨r, List.mem_filter.mpr ⟨hr, decide_eq_true f⟩, rfl⟩)
    have m := Rat.mul_le_mul_of_nonneg_left this (c := r.1 n) (by grind)
    have e1 : r.1 n * ((r.2 - qd r.1 x n) / r.1 n) = r.2 - qd r.1 x n := by grind
    grind
  · have f : r.1 n < 0 := by grind
    have := h1 _ (List.mem_map.mpr ⟨r, List.mem_filter.mpr ⟨hr, decide_eq_true f⟩, rfl⟩)
    have m := Rat.mul_le_mul_of_nonneg_left this (c := -(r.1 n)) (by grind)
    have e1 : r.1 n * ((r.2 - qd r.1 x n) / r.1 n) = r.2 - qd r.1 x n := by grind
    grind
/-- a system has a point, or a sum of its rows shows that it has none -/
theorem farkas : ∀ (n : Nat) (L : List Row), (∃ x : V, ∀ r ∈ L, hold n r x) ∨ ∃ s : Row, Nn L s ∧ (∀ j, j < n → s.1 j = 0) ∧ s.2 < 0
  | 0, L => by
    by_cases h : ∀ r ∈ L, 0 ≤ r.2
    · exact .inl ⟨fun _ => 0, fun r hr => h r hr⟩
    · obtain ⟨r, hr⟩ := Classical.not_forall.mp h
      obtain ⟨h1, h2⟩ := Classical.not_imp.mp hr
      exact .inr ⟨r, .mem h1, (fun j hj => absurd hj (Nat.not_lt_zero j)), by grind⟩
  | n + 1, L => by
    rcases farkas n (fmL n L) with ⟨x, hx⟩ | ⟨s, h1, h2, h3⟩
    · obtain ⟨t, ht⟩ := fmL_point hx
      refine .inl ⟨fun j => if j = n then t else x j, fun r hr => ?_⟩
      unfold hold qd
      rw [qd_congr (b := r.1) (y := x) (fun _ _ => rfl) fun j hj => by rw [if_neg (by omega)], if_pos rfl]
      exact ht r hr
    · refine .inr ⟨s, h1.trans fun r hr => (fmL_nn r hr).1, fun j hj => ?_, h3⟩
      by_cases e : j = n
      · rw [e]; exact h1.at_zero fun r hr => (fmL_nn r hr).2
      · exact h2 j (by omega)
end Lp

/-! Linear inequalities over the rationals, part 2: shares by place; fewest shares. -/
namespace Lp
/-- m rows over n numbers, their bounds -/
structure Sys where
  m : Nat
  n : Nat
  A : Nat → V
  b : V
def Sys.feas (S : Sys) (x : V) : Prop := ∀ k, k < S.m → qd (S.A k) x S.n ≤ S.b k
/-- what shares come to at a place, and their bound -/
def Sys.at (S : Sys) (y : V) (j : Nat) : Rat := qd y (fun k => S.A k j) S.m
def Sys.cost (S : Sys) (y : V) : Rat := qd y S.b S.m
theorem qd_upd {y a : V} {c : Rat} {i : Nat} : ∀ {m : Nat}, qd (fun k => if k = i then c + y k else y k) a m = qd y a m + if i < m then c * a i else 0
  | 0 => by rw [if_neg (Nat.not_lt_zero i)]; unfold qd; grind
  | m + 1 => by
    unfold qd
    rw [qd_upd (m := m)]
    by_cases e : m = i
    · subst e
      rw [if_pos rfl, if_neg (Nat.lt_irrefl m), if_pos (Nat.lt_succ_self m)]
      grind
    · rw [if_neg e]
      by_cases h : i < m
      · rw [if_pos h, if_pos (by omega)]; grind
      · rw [if_neg h, if_neg (by omega)]; grind
def Sys.rows (S : Sys) : List Row := (List.range S.m).map fun k => (S.A k, S.b k)
theorem nn_shares {S : Sys} {s : Row} (h : Nn S.rows s) : ∃ y : V, (∀ k, 0 ≤ y k) ∧ (∀ j, s.1 j = S.at y j) ∧ s.2 = S.cost y := by
  induction h with
  | zero => exact ⟨fun _ => 0, fun _ => Rat.le_refl, fun j => (qd_zero fun _ _ => rfl).symm, (qd_zero fun _ _ => rfl).symm⟩
  | @add c r s hr hc hs ih =>
    obtain ⟨y, h1, h2, h3⟩ := ih
    obtain ⟨i, hi, rfl⟩ := List.mem_map.mp hr
    have hi := List.mem_range.mp hi
    refine ⟨fun k => if k = i then c + y k else y k, fun k => ?_, fun j => ?_, ?_⟩
    · dsimp only
      split
      · have := h1 k; grind
      · exact h1 k
    · unfold Sys.at
      rw [qd_upd, if_pos hi]
      unfold cmb
      have := h2 j
      unfold Sys.at at this
      dsimp only
      grind
    · unfold Sys.cost
      rw [qd_upd, if_pos hi]
      unfold cmb
      unfold Sys.cost at h3
      dsimp only
      grind
/-- a system has a point, or shares show that it has none -/
theorem Sys.farkas (S : Sys) : (∃ x, S.feas x) ∨ ∃ y : V, (∀ k, 0 ≤ y k) ∧ (∀ j, j < S.n → S.at y j = 0) ∧ S.cost y < 0 := by
  rcases Lp.farkas S.n S.rows with ⟨x, hx⟩ | ⟨s, h1, h2, h3⟩
  · exact .inl ⟨x, fun k hk => hx (S.A k, S.b k) (List.mem_map.mpr ⟨k, List.mem_range.mpr hk, rfl⟩)⟩
  · obtain ⟨y, y1, y2, y3⟩ := nn_shares h1
    exact .inr ⟨y, y1, fun j hj => by rw [← y2 j]; exact h2 j hj, by rw [← y3]; exact h3⟩
/-- the sum of what the rows come to is what their sum comes to -/
theorem at_turn (S : Sys) (y x : V) : ∀ m n, qd (fun j => qd y (fun k => S.A k j) m) x n = qd y (fun k => qd (S.A k) x n) m
  | 0, n => by
    rw [qd_zero (a := fun j => qd y (fun k => S.A k j) 0) fun j _ => rfl]
    rfl
  | m + 1, n => by
    have ih := at_turn S y x m n
    have e : (fun j => qd y (fun k => S.A k j) (m + 1)) = fun j => y m * S.A m j + qd y (fun k => S.A k j) m := funext fun j => by
      show qd y (fun k => S.A k j) m + y m * S.A m j = _
      grind
    rw [e, qd_lin, ih]
    show _ = qd y (fun k => qd (S.A k) x n) m + y m * qd (S.A m) x n
    grind
theorem qd_le {y a b : V} : ∀ {m : Nat}, (∀ k, k < m → 0 ≤ y k) → (∀ k, k < m → a k ≤ b k) → qd y a m ≤ qd y b m
  | 0, _, _ => Rat.le_refl
  | m + 1, h1, h2 => by
    unfold qd
    have ih := qd_le (m := m) (fun k hk => h1 k (by omega)) fun k hk => h2 k (by omega)
    have := Rat.mul_le_mul_of_nonneg_left (h2 m (by omega)) (h1 m (by omega))
    grind
/-- shares' sum at a point is no more than their bound -/
theorem Sys.weak {S : Sys} {x y : V} (hx : S.feas x) (hy : ∀ k, k < S.m → 0 ≤ y k) : qd (S.at y) x S.n ≤ S.cost y := by
  have := at_turn S y x S.m S.n
  unfold Sys.at
  rw [this]
  exact qd_le hy hx
/-! ### fewest shares -/
def cnt (y : V) (m : Nat) : Nat := ((List.range m).filter fun k => decide (y k ≠ 0)).length
theorem cnt_lt {y z : V} {m i : Nat} (h : ∀ k, k < m → z k ≠ 0 → y k ≠ 0) (hi : i < m) (h1 : y i ≠ 0) (h2 : z i = 0) : cnt z m < cnt y m := by
  unfold cnt
  rw [← List.countP_eq_length_filter, ← List.countP_eq_length_filter]
  have le : ∀ l : List Nat, (∀ k ∈ l, k < m) → List.countP (fun k => decide (z k ≠ 0)) l ≤ List.countP (fun k => decide (y k ≠ 0)) l := fun l hl =>
    List.countP_mono_left fun k hk hz => decide_eq_true (h k (hl k hk) (of_decide_eq_true hz))
  have : ∀ l : List Nat, (∀ k ∈ l, k < m) → i ∈ l → List.countP (fun k => decide (z k ≠ 0)) l < List.countP (fun k => decide (y k ≠ 0)) l := by
    intro l
    induction l with
    | nil => intro _ hil; cases hil
    | cons k l ih =>
      intro hl hil
      by_cases e : k = i
      · subst e
        have := le l fun q hq => hl q (List.mem_cons_of_mem _ hq)
        rw [List.countP_cons, List.countP_cons, if_neg (by rw [decide_eq_false (fun n => n h2)]; exact Bool.false_ne_true), if_pos (decide_eq_true h1)]
        omega
      · have ih := ih (fun q hq => hl q (List.mem_cons_of_mem _ hq)) (by rcases List.mem_cons.mp hil with q | q; exact absurd q.symm e; exact q)
        rw [List.countP_cons, List.countP_cons]
        by_cases hz : z k = 0
        · rw [if_neg (by rw [decide_eq_false (fun n => n hz)]; exact Bool.false_ne_true)]
          omega
        · rw [if_pos (decide_eq_true hz), if_pos (decide_eq_true (h k (hl k List.mem_cons_self) hz))]
          omega
  exact this _ (fun k hk => List.mem_range.mp hk) (List.mem_range.mpr hi)
/-- one share comes to nought first -/
theorem shrink {y z : V} {m : Nat} (hy : ∀ k, 0 ≤ y k) (hz : ∀ k, k < m → z k ≠ 0 → y k ≠ 0) (hn : ∃ k, k < m ∧ z k < 0) (h0 : ∀ k, m ≤ k → z k = 0) :
    ∃ t : Rat, 0 < t ∧ (∀ k, 0 ≤ y k + t * z k) ∧ ∃ i, i < m ∧ y i ≠ 0 ∧ y i + t * z i = 0 := by
  obtain ⟨i, hi, hin⟩ := hn
  obtain ⟨t, ht, hl⟩ := low_of (((List.range m).filter fun k => decide (z k < 0)).map fun k => y k / -(z k)) (fun e => by
    have := List.map_eq_nil_iff.mp e
    have hm : i ∈ (List.range m).filter fun k => decide (z k < 0) := List.mem_filter.mpr ⟨List.mem_range.mpr hi, decide_eq_true hin⟩
    rw [this] at hm
    cases hm)
  obtain ⟨q, hq, rfl⟩ := List.mem_map.mp ht
  obtain ⟨q1, q2⟩ := List.mem_filter.mp hq
  have q1 := List.mem_range.mp q1
  have q2 : z q < 0 := of_decide_eq_true q2
  have qy := hz q q1 (by grind)
  have qp : 0 < y q := by have := hy q; grind
  have et : y q / -(z q) * -(z q) = y q := by grind
  have tp : 0 < y q / -(z q) := by
    refine Classical.byContradiction fun w => ?_
    have : y q / -(z q) ≤ 0 := by grind
    have := Rat.mul_le_mul_of_nonneg_right this (c := -(z q)) (by grind)
    grind
  refine ⟨y q / -(z q), tp, fun k => ?_, q, q1, qy, by grind⟩
  by_cases hk : z k < 0
  · have km : k < m := Classical.byContradiction fun w => by have := h0 k (by omega); grind
    have := hl _ (List.mem_map.mpr ⟨k, List.mem_filter.mpr ⟨List.mem_range.mpr km, decide_eq_true hk⟩, rfl⟩)
    have := Rat.mul_le_mul_of_nonneg_right this (c := -(z k)) (by grind)
    have e : y k / -(z k) * -(z k) = y k := by grind
    grind
  · have := Rat.mul_nonneg (Rat.le_of_lt tp) (show 0 ≤ z k by grind)
    have := hy k
    grind
theorem at_lin (S : Sys) (t : Rat) (y z : V) (j : Nat) : S.at (fun k => y k + t * z k) j = S.at y j + t * S.at z j := by
  unfold Sys.at
  have := qd_lin t z y (fun k => S.A k j) S.m
  have e : (fun k => y k + t * z k) = fun k => t * z k + y k := funext fun k => by grind
  rw [e, this]
  grind
theorem cost_lin (S : Sys) (t : Rat) (y z : V) : S.cost (fun k => y k + t * z k) = S.cost y + t * S.cost z := by
  unfold Sys.cost
  have := qd_lin t z y S.b S.m
  have e : (fun k => y k + t * z k) = fun k => t * z k + y k := funext fun k => by grind
  rw [e, this]
  grind
/-- the rows that have a share are independent -/
def Sys.indep (S : Sys) (y : V) : Prop := ∀ z : V, (∀ k, z k ≠ 0 → k < S.m ∧ y k ≠ 0) → (∀ j, j < S.n → S.at z j = 0) → ∀ k, z k = 0
/-- in a system with a point, shares may be had from independent rows, with no greater bound -/
theorem Sys.basic {S : Sys} {x : V} (hx : S.feas x) : ∀ (N : Nat) (y : V), cnt y S.m ≤ N → (∀ k, 0 ≤ y k) → (∀ k, S.m ≤ k → y k = 0) →
    ∃ y' : V, (∀ k, 0 ≤ y' k) ∧ (∀ k, S.m ≤ k → y' k = 0) ∧ (∀ j, j < S.n → S.at y' j = S.at y j) ∧ S.cost y' ≤ S.cost y ∧ S.indep y' := by
  intro N
  induction N with
  | zero =>
    intro y hc hy h0
    refine ⟨y, hy, h0, fun _ _ => rfl, Rat.le_refl, fun z hz _ k => Classical.byContradiction fun w => ?_⟩
    obtain ⟨k1, k2⟩ := hz k w
    have : k ∈ (List.range S.m).filter fun k => decide (y k ≠ 0) := List.mem_filter.mpr ⟨List.mem_range.mpr k1, decide_eq_true k2⟩
    unfold cnt at hc
    rw [List.length_eq_zero_iff.mp (Nat.le_zero.mp hc)] at this
    cases this
  | succ N ih =>
    intro y hc hy h0
    by_cases hi : S.indep y
    · exact ⟨y, hy, h0, fun _ _ => rfl, Rat.le_refl, hi⟩
    · unfold Sys.indep at hi
      obtain ⟨z, hz⟩ := Classical.not_forall.mp hi
      obtain ⟨z1, hz⟩ := Classical.not_imp.mp hz
      obtain ⟨z2, hz⟩ := Classical.not_imp.mp hz
      obtain ⟨i, zi⟩ := Classical.not_forall.mp hz
      -- a way on which the bound does not grow and a share falls
      have way : ∃ w : V, (∀ k, w k ≠ 0 → k < S.m ∧ y k ≠ 0) ∧ (∀ j, j < S.n → S.at w j = 0) ∧ S.cost w ≤ 0 ∧ ∃ k, k < S.m ∧ w k < 0 := by
        have neg1 : ∀ j, S.at (fun k => -(z k)) j = -(S.at z j) := fun j => by
          have := at_lin S (-1) (fun _ => 0) z j
          have e : (fun k => (fun _ => (0 : Rat)) k + -1 * z k) = fun k => -(z k) := funext fun k => by dsimp only; grind
          rw [e, show S.at (fun _ => 0) j = 0 from qd_zero fun _ _ => rfl] at this
          grind
        have neg2 : S.cost (fun k => -(z k)) = -(S.cost z) := by
          have := cost_lin S (-1) (fun _ => 0) z
          have e : (fun k => (fun _ => (0 : Rat)) k + -1 * z k) = fun k => -(z k) := funext fun k => by dsimp only; grind
          rw [e, show S.cost (fun _ => 0) = 0 from qd_zero fun _ _ => rfl] at this
          grind
        have n1 : ∀ k, -(z k) ≠ 0 → k < S.m ∧ y k ≠ 0 := fun k hk => z1 k (by grind)
        have n2 : ∀ j, j < S.n → S.at (fun k => -(z k)) j = 0 := fun j hj => by rw [neg1, z2 j hj]; grind
        -- no z of one sign with a bound below 0
        have sgn : ∀ w : V, (∀ k, 0 ≤ w k) → (∀ j, j < S.n → S.at w j = 0) → 0 ≤ S.cost w := fun w hw hj => by
          have := S.weak hx (fun k _ => hw k)
          rw [qd_zero hj] at this
          exact this
        obtain ⟨im, iy⟩ := z1 i zi
        by_cases c0 : S.cost z ≤ 0
        · by_cases ng : ∃ k, k < S.m ∧ z k < 0
          · exact ⟨z, z1, z2, c0, ng⟩
          · have zp : ∀ k, 0 ≤ z k := fun k => Classical.byContradiction fun w => ng ⟨k, (z1 k (by grind)).1, by grind⟩
            have := sgn z zp z2
            refine ⟨fun k => -(z k), n1, n2, by rw [neg2]; grind, i, im, ?_⟩
            have := zp i
            grind
        · by_cases ng : ∃ k, k < S.m ∧ -(z k) < 0
          · exact ⟨fun k => -(z k), n1, n2, by rw [neg2]; grind, ng⟩
          · have zp : ∀ k, 0 ≤ -(z k) := fun k => Classical.byContradiction fun w => ng ⟨k, (z1 k (by grind)).1, by grind⟩
            have := sgn (fun k => -(z k)) zp n2
            rw [neg2] at this
            grind
      obtain ⟨w, w1, w2, w3, w4⟩ := way
      obtain ⟨t, t0, t1, q, q1, q2, q3⟩ := shrink hy (fun k hk hw => (w1 k hw).2) w4 fun k hk => Classical.byContradiction fun e => absurd (w1 k e).1 (by omega)
      have lt : cnt (fun k => y k + t * w k) S.m < cnt y S.m := cnt_lt (fun k hk hne e => by
        have : w k = 0 := Classical.byContradiction fun v => (w1 k v).2 e
        apply hne
        rw [e, this]
        grind) q1 q2 q3
      obtain ⟨y', a1, a2, a3, a4, a5⟩ := ih (fun k => y k + t * w k) (by omega) t1 (fun k hk => by
        have : w k = 0 := Classical.byContradiction fun v => absurd (w1 k v).1 (by omega)
        rw [h0 k hk, this]
        grind)
      refine ⟨y', a1, a2, fun j hj => by rw [a3 j hj, at_lin, w2 j hj]; grind, ?_, a5⟩
      rw [cost_lin] at a4
      have := Rat.mul_le_mul_of_nonneg_left w3 (Rat.le_of_lt t0)
      grind
end Lp

/-! Linear inequalities over the rationals, part 3: rings, the most, corners. -/
namespace Lp
theorem at_zero (S : Sys) (j : Nat) : S.at (fun _ => 0) j = 0 := qd_zero fun _ _ => rfl
/-- shares that show that there is no point -/
structure Sys.Shut (S : Sys) (y : V) : Prop where
  nn : ∀ k, 0 ≤ y k
  out : ∀ k, S.m ≤ k → y k = 0
  z : ∀ j, j < S.n → S.at y j = 0
  c : S.cost y < 0
/-! ### the most -/
def Sys.more (S : Sys) (a : V) (β : Rat) : Sys := ⟨S.m + 1, S.n, fun k => if k = S.m then a else S.A k, fun k => if k = S.m then β else S.b k⟩
theorem more_at (S : Sys) (a : V) (β : Rat) (y : V) (j : Nat) : (S.more a β).at y j = S.at y j + y S.m * a j := by
  show qd y (fun k => (if k = S.m then a else S.A k) j) S.m + y S.m * (if S.m = S.m then a else S.A S.m) j = _
  rw [if_pos rfl, qd_congr (a := y) (b := y) (y := fun k => S.A k j) (fun _ _ => rfl) fun k hk => by rw [if_neg (by omega)]]
  rfl
theorem more_cost (S : Sys) (a : V) (β : Rat) (y : V) : (S.more a β).cost y = S.cost y + y S.m * β := by
  show qd y (fun k => if k = S.m then β else S.b k) S.m + y S.m * (if S.m = S.m then β else S.b S.m) = _
  rw [if_pos rfl, qd_congr (a := y) (b := y) (y := S.b) (fun _ _ => rfl) fun k hk => by rw [if_neg (by omega)]]
  rfl
theorem more_feas {S : Sys} {a : V} {β : Rat} {x : V} : (S.more a β).feas x ↔ S.feas x ∧ qd a x S.n ≤ β := by
  unfold Sys.feas Sys.more
  dsimp only
  constructor
  · intro h
    refine ⟨fun k hk => ?_, ?_⟩
    · have := h k (by omega)
      rw [if_neg (by omega), if_neg (by omega)] at this
      exact this
    · have := h S.m (by omega)
      rw [if_pos rfl, if_pos rfl] at this
      exact this
  · rintro ⟨h1, h2⟩ k hk
    by_cases e : k = S.m
    · rw [if_pos e, if_pos e]; exact h2
    · rw [if_neg e, if_neg e]; exact h1 k (by omega)
/-- shares for a target -/
structure Sys.For (S : Sys) (c y : V) : Prop where
  nn : ∀ k, 0 ≤ y k
  out : ∀ k, S.m ≤ k → y k = 0
  eq : ∀ j, j < S.n → S.at y j = c j
theorem Sys.For.bound {S : Sys} {c y x : V} (h : S.For c y) (hx : S.feas x) : qd c x S.n ≤ S.cost y := by
  have := S.weak hx fun k _ => h.nn k
  rw [qd_congr (b := c) (y := x) h.eq fun _ _ => rfl] at this
  exact this
theorem scale_for {S : Sys} {c y : V} {d : Rat} (h0 : ∀ k, 0 ≤ y k) (hd : 0 < d) (h : ∀ j, j < S.n → S.at y j = d * c j) : S.For c (fun k => if k < S.m then d⁻¹ * y k else 0) ∧ S.cost (fun k => if k < S.m then d⁻¹ * y k else 0) = d⁻¹ * S.cost y := by
  have di : d⁻¹ * d = 1 := by grind
  have dp : 0 ≤ d⁻¹ := Classical.byContradiction fun z => by
    have : 0 < -(d⁻¹) * d := Rat.mul_pos (by grind) hd
    grind
  have q : ∀ a : V, qd (fun k => if k < S.m then d⁻¹ * y k else 0) a S.m = d⁻¹ * qd y a S.m := fun a => by
    have := qd_lin d⁻¹ y (fun _ => 0) a S.m
    rw [qd_zero (a := fun _ => 0) fun _ _ => rfl] at this
    rw [qd_congr (b := fun j => d⁻¹ * y j + (fun _ => (0 : Rat)) j) (y := a) (fun k hk => by rw [if_pos hk]; dsimp only; grind) fun _ _ => rfl, this]
    grind
  refine ⟨⟨fun k => ?_, fun k hk => if_neg (by omega), fun j hj => ?_⟩, q S.b⟩
  · split
    · exact Rat.mul_nonneg dp (h0 k)
    · exact Rat.le_refl
  · show qd _ (fun k => S.A k j) S.m = c j
    rw [q]
    have := h j hj
    unfold Sys.at at this
    rw [this]
    grind
end Lp

/-! Linear inequalities over the rationals, part 4: open rooms; corners. -/
namespace Lp
theorem qd_neg (c x : V) (n : Nat) : qd (fun j => -(c j)) x n = -(qd c x n) := by
  have := qd_lin (-1) c (fun _ => 0) x n
  rw [qd_zero (a := fun _ => 0) fun _ _ => rfl] at this
  have e : (fun j => -1 * c j + (fun _ => (0 : Rat)) j) = fun j => -(c j) := funext fun j => by dsimp only; grind
  rw [e] at this
  grind
theorem qd_zero_r {a x : V} : ∀ {n : Nat}, (∀ j, j < n → x j = 0) → qd a x n = 0
  | 0, _ => rfl
  | n + 1, h => by unfold qd; rw [qd_zero_r (n := n) fun j hj => h j (by omega), h n (by omega)]; grind
theorem qd_neg_r (a x : V) (n : Nat) : qd a (fun j => -(x j)) n = -(qd a x n) := by
  have := qd_lin_r (-1) a (fun _ => 0) x n
  rw [qd_zero_r (x := fun _ => 0) fun _ _ => rfl] at this
  have e : (fun j => (fun _ => (0 : Rat)) j + -1 * x j) = fun j => -(x j) := funext fun j => by dsimp only; grind
  rw [e] at this
  grind
theorem qd_smul_r (a x : V) (t : Rat) (n : Nat) : qd a (fun j => t * x j) n = t * qd a x n := by
  have := qd_lin_r t a (fun _ => 0) x n
  rw [qd_zero_r (x := fun _ => 0) fun _ _ => rfl] at this
  have e : (fun j => (fun _ => (0 : Rat)) j + t * x j) = fun j => t * x j := funext fun j => by dsimp only; grind
  rw [e] at this
  grind
/-- where no shares make a row, a way leads on for ever, the row growing -/
theorem Sys.open {S : Sys} {c x0 : V} (hx : S.feas x0) (no : ∀ y, S.For c y → ¬ S.indep y) : ∃ d : V, (∀ k, k < S.m → qd (S.A k) d S.n ≤ 0) ∧ qd c d S.n = 1 := by
  rcases (Sys.more ⟨S.m, S.n, S.A, fun _ => 0⟩ (fun j => -(c j)) (-1)).farkas with ⟨d, h⟩ | ⟨y, y0, y1, y2⟩
  · obtain ⟨h1, h2⟩ := more_feas.mp h
    have h2 : qd (fun j => -(c j)) d S.n ≤ -1 := h2
    rw [qd_neg] at h2
    have p : 0 < qd c d S.n := by grind
    refine ⟨fun j => (qd c d S.n)⁻¹ * d j, fun k hk => ?_, ?_⟩
    · rw [qd_smul_r]
      have h1 : qd (S.A k) d S.n ≤ 0 := h1 k hk
      have ip : 0 ≤ (qd c d S.n)⁻¹ := Classical.byContradiction fun z => by
        have : 0 < -((qd c d S.n)⁻¹) * qd c d S.n := Rat.mul_pos (by grind) p
        have e : (qd c d S.n)⁻¹ * qd c d S.n = 1 := by grind
        grind
      have := Rat.mul_le_mul_of_nonneg_left h1 ip
      grind
    · rw [qd_smul_r]
      grind
  · rw [more_cost] at y2
    have c0 : Sys.cost ⟨S.m, S.n, S.A, fun _ => 0⟩ y = 0 := qd_zero_r fun _ _ => rfl
    rw [c0] at y2
    have dp : 0 < y S.m := by
      show 0 < y S.m
      have y2 : 0 + y S.m * -1 < 0 := y2
      grind
    have z1 : ∀ j, j < S.n → S.at y j = y S.m * c j := fun j hj => by
      have := y1 j hj
      rw [more_at] at this
      have this : S.at y j + y S.m * -(c j) = 0 := this
      grind
    obtain ⟨f, -⟩ := scale_for (c := c) y0 dp z1
    obtain ⟨y', a1, a2, a3, a4, a5⟩ := S.basic hx _ _ (Nat.le_refl _) f.nn f.out
    exact absurd a5 (no y' ⟨a1, a2, fun j hj => by rw [a3 j hj]; exact f.eq j hj⟩)
/-! ### corners -/
/-- the rows that are met just so leave nothing free that another row sees -/
def Sys.full (S : Sys) (x : V) : Prop := ∀ d : V, (∀ k, k < S.m → qd (S.A k) x S.n = S.b k → qd (S.A k) d S.n = 0) → ∀ k, k < S.m → qd (S.A k) d S.n = 0
def Sys.slack (S : Sys) (x : V) : V := fun k => if k < S.m then S.b k - qd (S.A k) x S.n else 0
theorem Sys.corner {S : Sys} {c : V} {v : Rat} (top : ∀ x, S.feas x → qd c x S.n ≤ v) : ∀ (N : Nat) (x : V), cnt (S.slack x) S.m ≤ N → S.feas x → qd c x S.n = v → ∃ x', S.feas x' ∧ qd c x' S.n = v ∧ S.full x' := by
  intro N
  induction N with
  | zero =>
    intro x hc hx hv
    refine ⟨x, hx, hv, fun d hd k hk => hd k hk (Classical.byContradiction fun w => ?_)⟩
    have : k ∈ (List.range S.m).filter fun k => decide (S.slack x k ≠ 0) := List.mem_filter.mpr ⟨List.mem_range.mpr hk, decide_eq_true (by unfold Sys.slack; rw [if_pos hk]; grind)⟩
    unfold cnt at hc
    rw [List.length_eq_zero_iff.mp (Nat.le_zero.mp hc)] at this
    cases this
  | succ N ih =>
    intro x hc hx hv
    by_cases hf : S.full x
    · exact ⟨x, hx, hv, hf⟩
    unfold Sys.full at hf
    obtain ⟨d, hd⟩ := Classical.not_forall.mp hf
    obtain ⟨d1, hd⟩ := Classical.not_imp.mp hd
    obtain ⟨k0, hd⟩ := Classical.not_forall.mp hd
    obtain ⟨k0m, hd⟩ := Classical.not_imp.mp hd
    -- one way or the other
    have pick : ∃ d : V, (∀ k, k < S.m → qd (S.A k) x S.n = S.b k → qd (S.A k) d S.n = 0) ∧ ∃ k, k < S.m ∧ 0 < qd (S.A k) d S.n := by
      by_cases h : 0 < qd (S.A k0) d S.n
      · exact ⟨d, d1, k0, k0m, h⟩
      · refine ⟨fun j => -(d j), fun k hk e => by rw [qd_neg_r, d1 k hk e]; decide, k0, k0m, by rw [qd_neg_r]; grind⟩
    obtain ⟨d, d1, k1, k1m, k1p⟩ := pick
    have step : ∀ d : V, (∀ k, k < S.m → qd (S.A k) x S.n = S.b k → qd (S.A k) d S.n = 0) → (∃ k, k < S.m ∧ 0 < qd (S.A k) d S.n) →
        ∃ t : Rat, 0 < t ∧ S.feas (fun j => x j + t * d j) ∧ cnt (S.slack fun j => x j + t * d j) S.m < cnt (S.slack x) S.m := fun d d1 ⟨k1, k1m, k1p⟩ => by
      obtain ⟨t, t0, t1, i, i1, i2, i3⟩ := shrink (y := S.slack x) (z := fun k => if k < S.m then -(qd (S.A k) d S.n) else 0) (m := S.m) (fun k => by
          unfold Sys.slack
          split
          · have := hx k (by assumption); grind
          · exact Rat.le_refl) (fun k hk hz e => by
          unfold Sys.slack at e
          rw [if_pos hk] at e hz
          apply hz
          rw [d1 k hk (by grind)]
          decide) ⟨k1, k1m, by rw [if_pos k1m]; grind⟩ fun k hk => if_neg (by omega)
      have es : ∀ k, S.slack (fun j => x j + t * d j) k = S.slack x k + t * (if k < S.m then -(qd (S.A k) d S.n) else 0) := fun k => by
        unfold Sys.slack
        by_cases hk : k < S.m
        · rw [if_pos hk, if_pos hk, if_pos hk, qd_lin_r]; grind
        · rw [if_neg hk, if_neg hk, if_neg hk]; grind
      refine ⟨t, t0, fun k hk => ?_, cnt_lt (fun k hk hne e => hne ?_) i1 i2 (by rw [es]; exact i3)⟩
      · have := t1 k
        rw [← es] at this
        unfold Sys.slack at this
        rw [if_pos hk] at this
        grind
      · rw [es, e, if_pos hk]
        unfold Sys.slack at e
        rw [if_pos hk] at e
        rw [d1 k hk (by grind)]
        grind
    obtain ⟨t, t0, f1, f2⟩ := step d d1 ⟨k1, k1m, k1p⟩
    have le1 := top _ f1
    rw [qd_lin_r] at le1
    have ge1 : 0 ≤ qd c d S.n := by
      have n1 : ∀ k, k < S.m → qd (S.A k) x S.n = S.b k → qd (S.A k) (fun j => -(d j)) S.n = 0 := fun k hk e => by rw [qd_neg_r, d1 k hk e]; decide
      by_cases h : ∃ k, k < S.m ∧ 0 < qd (S.A k) (fun j => -(d j)) S.n
      · obtain ⟨u, u0, g1, -⟩ := step _ n1 h
        have := top _ g1
        rw [qd_lin_r, qd_neg_r] at this
        refine Classical.byContradiction fun z => ?_
        have m := Rat.mul_pos u0 (show 0 < -(qd c d S.n) by grind)
        grind
      · have g1 : S.feas (fun j => x j + 1 * -(d j)) := fun k hk => by
          have e := qd_lin_r 1 (S.A k) x (fun j => -(d j)) S.n
          rw [e]
          have := hx k hk
          have h2 : qd (S.A k) (fun j => -(d j)) S.n ≤ 0 := Classical.byContradiction fun z => h ⟨k, hk, by grind⟩
          grind
        have := top _ g1
        have e := qd_lin_r 1 c x (fun j => -(d j)) S.n
        rw [e, qd_neg_r] at this
        grind
    have z : qd c d S.n = 0 := by
      refine Classical.byContradiction fun z => ?_
      have m := Rat.mul_pos t0 (show 0 < qd c d S.n by grind)
      grind
    exact ih _ (by omega) f1 (by rw [qd_lin_r, z]; grind)
end Lp

/-! Linear inequalities over the rationals, part 5: equations by steps. -/
namespace Lp
open Dl
theorem qd_one {a y : V} {p : Nat} : ∀ {n : Nat}, p < n → (∀ j, j < n → j ≠ p → a j * y j = 0) → qd a y n = a p * y p
  | n + 1, hp, h => by
    unfold qd
    by_cases e : p = n
    · subst e
      have z : qd a y p = 0 := by
        have : ∀ m, m ≤ p → qd a y m = 0 := fun m => by
          induction m with
          | zero => intro _; rfl
          | succ m ih => intro hm; unfold qd; rw [ih (by omega), h m (by omega) (by omega)]; grind
        exact this p (Nat.le_refl _)
      rw [z]; grind
    · rw [qd_one (n := n) (by omega) fun j hj hne => h j (by omega) hne, h n (by omega) (by omega)]; grind
theorem qd_all0 {a y : V} : ∀ {n : Nat}, (∀ j, j < n → a j * y j = 0) → qd a y n = 0
  | 0, _ => rfl
  | n + 1, h => by unfold qd; rw [qd_all0 (n := n) fun j hj => h j (by omega), h n (by omega)]; grind
def rq (r : Nat → Int) : V := fun j => (r j : Rat)
theorem qd_int (r y : Nat → Int) : ∀ n, qd (rq r) (rq y) n = ((dot r y n : Int) : Rat)
  | 0 => rfl
  | n + 1 => by
    unfold qd dot
    rw [qd_int r y n]
    unfold rq
    rw [Rat.intCast_add, Rat.intCast_mul]
/-- one bottom for all -/
theorem common_den (y : V) : ∀ w : Nat, ∃ (D : Int) (Y : Nat → Int), 0 < D ∧ ∀ j, j < w → (Y j : Rat) = (D : Rat) * y j
  | 0 => ⟨1, fun _ => 0, by decide, fun j hj => absurd hj (Nat.not_lt_zero j)⟩
  | w + 1 => by
    obtain ⟨D, Y, hD, h⟩ := common_den y w
    refine ⟨D * ((y w).den : Int), fun j => if j < w then Y j * ((y w).den : Int) else D * (y w).num, Int.mul_pos hD (by have := (y w).den_pos; omega), fun j hj => ?_⟩
    by_cases e : j < w
    · dsimp only
      rw [if_pos e, Rat.intCast_mul, Rat.intCast_mul, h j e]; grind
    · have : j = w := by omega
      subst this
      dsimp only
      rw [if_neg e, Rat.intCast_mul, Rat.intCast_mul]
      have : ((y j).num : Rat) = y j * ((y j).den : Int) := by
        have h1 := Rat.num_divInt_den (y j)
        rw [Rat.divInt_eq_div] at h1
        have dn : (((y j).den : Int) : Rat) ≠ 0 := fun z => by
          have z2 : ((y j).den : Int) = 0 := Rat.intCast_inj.mp z
          have := (y j).den_pos
          omega
        generalize (((y j).den : Int) : Rat) = d at *
        generalize ((y j).num : Rat) = u at *
        rw [← h1]
        grind
      rw [this]; grind
def KnQ (w m : Nat) (R : Mat) (y : V) : Prop := ∀ k, k < m → qd (rq (R k)) y w = 0
theorem knq_iff {w m : Nat} {R R0 : Mat} (h : ∀ y, Kn w m R y ↔ Kn w m R0 y) (y : V) : KnQ w m R y ↔ KnQ w m R0 y := by
  obtain ⟨D, Y, hD, hY⟩ := common_den y w
  have key : ∀ R : Mat, KnQ w m R y ↔ Kn w m R Y := fun R => by
    have e : ∀ k, ((dot (R k) Y w : Int) : Rat) = (D : Rat) * qd (rq (R k)) y w := fun k => by
      rw [← qd_int, ← qd_smul_r]
      exact qd_congr (fun _ _ => rfl) fun j hj => hY j hj
    have dn : (D : Rat) ≠ 0 := fun z => by
      have := Rat.intCast_inj.mp (show ((D : Int) : Rat) = ((0 : Int) : Rat) from z)
      omega
    constructor
    · intro h k hk
      have := e k
      rw [h k hk] at this
      exact Rat.intCast_inj.mp (by rw [this]; show (D : Rat) * 0 = ((0 : Int) : Rat); rw [Rat.mul_zero]; rfl)
    · intro h k hk
      have := e k
      rw [h k hk] at this
      have z : (D : Rat) * qd (rq (R k)) y w = 0 := this.symm
      grind
  rw [key R, key R0]
  exact h Y
/-! ### a system of equations, its rows brought to steps -/
section
variable {m c : Nat} {T : Mat}
theorem ech_of (m c : Nat) (T : Mat) : Ech (c + 1) m c T (redG (c + 1) m T c).1 (redG (c + 1) m T c).2 := red_ech (Nat.le_succ c)
def ext (c : Nat) (y : V) (e : Rat) : V := fun j => if j < c then y j else e
theorem qd_ext (a y : V) (e : Rat) (c : Nat) : qd a (ext c y e) (c + 1) = qd a y c + a c * e := by
  show qd a (ext c y e) c + a c * ext c y e c = _
  rw [qd_congr (a := a) (b := a) (x := ext c y e) (y := y) (fun _ _ => rfl) (fun j hj => if_pos hj), show ext c y e c = e from if_neg (Nat.lt_irrefl c)]
/-- the numbers told -/
def xR (R : Mat) (c : Nat) (ps : List Nat) : V := fun q => if q ∈ ps then (R (ps.idxOf q) c : Rat) / (R (ps.idxOf q) q : Rat) else 0
theorem ne_q {i : Int} (h : i ≠ 0) : (i : Rat) ≠ 0 := fun z => h (Rat.intCast_inj.mp (show (i : Rat) = ((0 : Int) : Rat) from z))
/-- a place that is free: numbers that come to nought, 1 there, nought at the other free ones -/
def zR (R : Mat) (ps : List Nat) (q : Nat) : V := fun j => if j = q then 1 else if j ∈ ps then -(R (ps.idxOf j) q : Rat) / (R (ps.idxOf j) j : Rat) else 0
def ker (m c : Nat) (T : Mat) (y : V) : Prop := ∀ k, k < m → qd (rq (T k)) y c = 0
theorem ker_kn {y : V} : ker m c T y ↔ KnQ (c + 1) m T (ext c y 0) := by
  unfold ker KnQ
  constructor
  · intro h k hk
    rw [qd_ext, h k hk]; grind
  · intro h k hk
    have := h k hk
    rw [qd_ext] at this
    grind
theorem zR_ker {R : Mat} {ps : List Nat} (e : Ech (c + 1) m c T R ps) {q : Nat} (hq : q < c) (hn : q ∉ ps) : ker m c T (zR R ps q) := by
  refine ker_kn.mpr ((knq_iff e.kn _).mp fun k hk => ?_)
  rw [qd_ext]
  by_cases hl : k < ps.length
  · have hp : ps[k]? = some ps[k] := List.getElem?_eq_getElem hl
    have pc := e.lt _ (List.getElem_mem hl)
    obtain ⟨v1, v2⟩ := e.piv k _ hp
    have ix := idx_of (inc_nodup e.inc) hp
    have pq : ps[k] ≠ q := fun z => hn (z ▸ List.getElem_mem hl)
    -- two places: the pivot and q
    have split : qd (rq (R k)) (zR R ps q) c = (R k ps[k] : Rat) * zR R ps q ps[k] + (R k q : Rat) := by
      have h1 : zR R ps q = fun j => (if j = q then 0 else zR R ps q j) + 1 * (if j = q then 1 else 0) := funext fun j => by
        by_cases z : j = q
        · rw [if_pos z, if_pos z]; unfold zR; rw [if_pos z]; grind
        · rw [if_neg z, if_neg z]; grind
      conv => lhs; rw [h1]
      rw [qd_lin_r 1 (rq (R k)) (fun j => if j = q then 0 else zR R ps q j) (fun j => if j = q then 1 else 0) c, qd_one (p := ps[k]) pc fun j hj hne => ?_, qd_one (p := q) hq fun j hj hne => ?_]
      · rw [if_pos rfl, if_neg pq]
        show (R k ps[k] : Rat) * _ + 1 * ((R k q : Rat) * 1) = _
        grind
      · rw [if_neg hne]; grind
      · by_cases z : j = q
        · rw [if_pos z]; grind
        · rw [if_neg z]
          unfold zR
          rw [if_neg z]
          by_cases hj2 : j ∈ ps
          · obtain ⟨i, hi⟩ := List.getElem?_of_mem hj2
            have : i ≠ k := fun w => by subst w; rw [hp] at hi; exact hne (Option.some.inj hi).symm
            show (R k j : Rat) * _ = 0
            rw [(e.piv i j hi).2 k hk (Ne.symm this)]
            show (0 : Rat) * _ = 0
            grind
          · rw [if_neg hj2]; grind
    rw [split]
    unfold zR
    rw [if_neg pq, if_pos (List.getElem_mem hl), ix]
    have := ne_q v1
    grind
  · rw [qd_all0 fun j hj => ?_]
    · grind
    · have z : R k j = 0 := by
        by_cases hj2 : j ∈ ps
        · obtain ⟨i, hi⟩ := List.getElem?_of_mem hj2
          have il := (List.getElem?_eq_some_iff.mp hi).1
          exact (e.piv i j hi).2 k hk (by omega)
        · exact e.out j hj hj2 k (by omega) hk
      show (R k j : Rat) * _ = 0
      rw [z]
      show (0 : Rat) * _ = 0
      grind
end
end Lp

/-! Linear inequalities over the rationals, part 6: picked rows. -/
namespace Lp
open Dl
/-- a room as a system -/
def sysOf (m n : Nat) (R : Mat) : Sys := ⟨m, n, fun k => rq (R k), fun k => (R k n : Rat)⟩
/-- the equations for shares of picked rows -/
def tM (R : Mat) (P : List Nat) (tg : Nat → Int) : Mat := fun i j => if j < P.length then R (P.getD j 0) i else tg i
/-! ### shares from independent rows -/
abbrev stp (m c : Nat) (T : Mat) : Mat × List Nat := redG (c + 1) m T c
/-- picked rows that make a target by shares not below 0, and are independent -/
structure Good (n : Nat) (R : Mat) (P : List Nat) (tg : Nat → Int) : Prop where
  ok : badG n P.length (stp n P.length (tM R P tg)).1 (stp n P.length (tM R P tg)).2.length = false
  ful : (stp n P.length (tM R P tg)).2.length = P.length
  nn : ∀ j, j < P.length → 0 ≤ xR (stp n P.length (tM R P tg)).1 P.length (stp n P.length (tM R P tg)).2 j
end Lp

/-! Linear inequalities over the rationals, part 7: rings by steps; dimensions. -/
namespace Lp
open Dl
/-- the places that are no steps -/
def frees (p : Nat) (ps : List Nat) : List Nat := (List.range p).filter fun k => decide (k ∉ ps)
/-- picked rows whose shares, above nought, come to nought: the only ones -/
structure RingP (n : Nat) (R : Mat) (P : List Nat) (q : Nat) : Prop where
  len : (stp n P.length (tM R P fun _ => 0)).2.length + 1 = P.length
  free : frees P.length (stp n P.length (tM R P fun _ => 0)).2 = [q]
  pos : ∀ j, j < P.length → 0 < zR (stp n P.length (tM R P fun _ => 0)).1 (stp n P.length (tM R P fun _ => 0)).2 q j
end Lp

/-! Linear inequalities over the rationals, part 8: dimensions. -/
namespace Lp
open Dl
theorem qd_comm (a b : V) : ∀ n, qd a b n = qd b a n
  | 0 => rfl
  | n + 1 => by unfold qd; rw [qd_comm a b n]; grind
/-- more vectors than places are dependent -/
theorem dep (M : Nat → V) {a b : Nat} (h : b < a) : ∃ l : V, (∃ i, i < a ∧ l i ≠ 0) ∧ ∀ j, j < b → qd l (fun i => M i j) a = 0 := by
  have hc : ∀ j, ∃ (D : Int) (Y : Nat → Int), 0 < D ∧ ∀ i, i < a → (Y i : Rat) = (D : Rat) * M i j := fun j => common_den (fun i => M i j) a
  obtain ⟨D, T, hDT⟩ : ∃ (D : Nat → Int) (T : Nat → Nat → Int), ∀ j, 0 < D j ∧ ∀ i, i < a → (T j i : Rat) = (D j : Rat) * M i j :=
    ⟨fun j => Classical.choose (hc j), fun j => Classical.choose (Classical.choose_spec (hc j)), fun j => Classical.choose_spec (Classical.choose_spec (hc j))⟩
  have e : Ech (a + 1) b a T (stp b a T).1 (stp b a T).2 := ech_of b a T
  have lt : (stp b a T).2.length < a := Nat.lt_of_le_of_lt e.len h
  obtain ⟨q, q1, q2⟩ := inc_gap e.inc e.lt lt
  refine ⟨zR (stp b a T).1 (stp b a T).2 q, ⟨q, q1, by show (if q = q then (1 : Rat) else _) ≠ 0; rw [if_pos rfl]; decide⟩, fun j hj => ?_⟩
  have hk := zR_ker e q1 q2 j hj
  obtain ⟨hD, hY⟩ := hDT j
  generalize zR (stp b a T).1 (stp b a T).2 q = z at *
  have eq : qd (rq (T j)) z a = (D j : Rat) * qd (fun i => M i j) z a := by
    have := qd_lin (D j : Rat) (fun i => M i j) (fun _ => 0) z a
    rw [qd_zero (a := fun _ => 0) fun _ _ => rfl] at this
    rw [qd_congr (a := rq (T j)) (b := fun i => (D j : Rat) * M i j + (fun _ => (0 : Rat)) i) (x := z) (y := z) (fun i hi => (hY i hi).trans (by dsimp only; grind)) fun _ _ => rfl, this]
    grind
  rw [eq] at hk
  have dn := ne_q (Int.ne_of_gt hD)
  rw [qd_comm]
  generalize qd (fun i => M i j) z a = u at *
  generalize (D j : Rat) = d at *
  grind
section
variable {m c : Nat} {T R : Mat} {ps : List Nat}
end
end Lp

/-! Linear inequalities over the rationals, part 9: corners by picked rows. -/
namespace Lp
open Dl
/-- picked rows -/
def pR (R : Mat) (P : List Nat) : Mat := fun i => R (P.getD i 0)
structure Kp (m n : Nat) (R : Mat) (x : V) (P : List Nat) : Prop where
  inc : P.Pairwise (· < ·)
  lt : ∀ k ∈ P, k < m
  tight : ∀ k ∈ P, qd (rq (R k)) x n = (R k n : Rat)
  ker : ∀ d : V, (∀ k ∈ P, qd (rq (R k)) d n = 0) → ∀ k, k < m → qd (rq (R k)) d n = 0
/-- picked rows by which a corner is told -/
structure Corner (m n : Nat) (R : Mat) (P : List Nat) : Prop where
  inc : P.Pairwise (· < ·)
  lt : ∀ k ∈ P, k < m
  len : P.length = (stp m n R).2.length
  ok : badG P.length n (stp P.length n (pR R P)).1 (stp P.length n (pR R P)).2.length = false
  ful : (stp P.length n (pR R P)).2.length = (stp m n R).2.length
end Lp

/-! Linear inequalities, part 10: the program's numbers are the theory's. -/
namespace Lp
open Dl
/-! ### fractions -/
def qv (p : Int × Int) : Rat := (p.1 : Rat) / (p.2 : Rat)
def ptQ (ps : List (Int × Int)) : V := fun j => qv (ps.getD j (0, 1))
theorem pos_q {i : Int} (h : 0 < i) : (0 : Rat) < (i : Rat) := Rat.intCast_pos.mpr h
theorem frX_q {p : Int × Int} (h : p.2 ≠ 0) : qv (frX p) = qv p := by
  obtain ⟨h1, h2, _⟩ := frX_ok h
  unfold qv
  have a := ne_q h
  have b := ne_q (show (frX p).2 ≠ 0 by omega)
  have c : ((frX p).1 : Rat) * (p.2 : Rat) = (p.1 : Rat) * ((frX p).2 : Rat) := by rw [← Rat.intCast_mul, ← Rat.intCast_mul, h2]
  grind
/-! ### numbers told by solution -/
/-! ### made whole -/
end Lp

/-! Linear inequalities, part 11: shares and rings as the program tells them. -/
namespace Lp
open Dl
/-! ### shares -/
/-- the shares over their times -/
def yS (s : Int × (Nat → Int)) : V := fun k => (s.2 k : Rat) / (s.1 : Rat)
/-- the shares that shares_by tells -/
structure ShOk (m n : Nat) (R : Mat) (t : Nat → Int) (s : Int × (Nat → Int)) : Prop where
  pos : 0 < s.1
  nn : ∀ k, 0 ≤ s.2 k
  eq : ∀ j, j < n → dot (fun i => R i j) s.2 m = s.1 * t j
  for_ : (sysOf m n R).For (rq t) (yS s)
end Lp

/-! Linear inequalities, part 12: rings and corners as the program tells them. -/
namespace Lp
open Dl
/-! ### rings -/
/-- an empty room's shares -/
structure EmOk (m n : Nat) (R : Mat) (N : Nat → Int) : Prop where
  nn : ∀ k, 0 ≤ N k
  eq : ∀ j, j < n → dot (fun i => R i j) N m = 0
  lt : dot (fun i => R i n) N m < 0
  no : ∀ x, ¬ (sysOf m n R).feas x
end Lp

/-! Linear inequalities, part 13: corners as the program tells them; what most tells. -/
namespace Lp
open Dl
/-! ### corners -/
structure CnOk (m n : Nat) (R : Mat) (ps : List (Int × Int)) : Prop where
  len : ps.length = n
  ok : okP 1300 ps
  lies : liesB m n R ps = true
  feas : (sysOf m n R).feas (ptQ ps)
/-! ### most -/
theorem frX_eq {p q : Int × Int} (hp : 0 < p.2) (hq : 0 < q.2) : frX p = frX q ↔ qv p = qv q := by
  constructor
  · intro h
    rw [← frX_q (show p.2 ≠ 0 by omega), h, frX_q (by omega)]
  · intro h
    have hx : p.1 * q.2 = q.1 * p.2 := by
      have n1 := ne_q (show p.2 ≠ 0 by omega)
      have n2 := ne_q (show q.2 ≠ 0 by omega)
      unfold qv at h
      have : ((p.1 * q.2 : Int) : Rat) = ((q.1 * p.2 : Int) : Rat) := by
        rw [Rat.intCast_mul, Rat.intCast_mul]
        grind
      exact Rat.intCast_inj.mp this
    have f := fr_eq (t := p.1) (t' := q.1) hp hq hx
    have f : prD (frX p) = prD (frX q) := f
    unfold prD pr at f
    injection f with f
    injection f with f1 f2
    injection f2 with f2 _
    injection f1 with f1
    injection f2 with f2
    exact Prod.ext f1 f2
structure WyOk (m n : Nat) (R : Mat) (t w : Nat → Int) : Prop where
  le : ∀ k, k < m → dot (R k) w n ≤ 0
  gt : 0 < dot t w n
/-- what most tells -/
structure MoOk (m n : Nat) (R : Mat) (t : Nat → Int) (s : Int × (Nat → Int)) (ps : List (Int × Int)) : Prop where
  sh : ShOk m n R t s
  ks : okSh s
  cn : CnOk m n R ps
  val : qd (rq t) (ptQ ps) n = qv (lsV m n R s)
end Lp

/-! The D-layer, part 55: the most. -/
namespace Dl
open PySem PySem.Spec
open PyProof.Rows L2
/-! ### the most -/
end Dl

/-! The D-layer, part 56: what the laws of the most draw and test. -/
namespace Dl
open PySem PySem.Spec
open PyProof.Rows L2
/-! ### the least of a list -/
/-! ### points -/
theorem fr_self {t b : Int} (hb : 0 < b) (hg : (Int.gcd t b : Int) = 1) : fr t b = pr t b := by
  unfold fr shr
  rw [if_neg (by omega), hg, Int.fdiv_one, Int.fdiv_one]
structure okR9 (n : Nat) (r : Nat → Int) : Prop where
  lo : ∀ j, j < n → bnd 30 (r j)
  all : ∀ j, bnd 74 (r j)
end Dl

/-! Linear inequalities, part 14: what most tells, as the laws test it. -/
namespace Lp
open Dl
/-! ### points over one bottom -/
end Lp

/-! Rules, part 1: three methods that call one another; rules as trees. -/
namespace Dl
open PySem PySem.Spec
open PyProof.Rows L2
/-- three methods that call one another: by how deep their data lie -/
theorem rec_zero {P : Program} {w : World} {K : PySem.W.Frag} {mg : Str → Option Value} {base : Heap} {f : Addr} {fd : FuncData} {ps : List Str} {n c : Nat} {G : DF} (h0 : G = fun _ _ _ => False) : FnOk P w K mg base (L2.CX P w) c f fd ps (spD K n G) := by
  rw [h0]
  refine ⟨fun vs H Q E h => ?_, fun A outer s H args us vs Q E hr e0 hb hv h => ?_⟩
  · obtain ⟨_, _, _, _, _, _, _, z, _⟩ := h
    exact z.elim
  · obtain ⟨_, _, _, _, _, _, _, z, _⟩ := h
    exact z.elim
theorem grp3_ok {P : Program} {w : World} {K : PySem.W.Frag} {mg : Str → Option Value} {base : Heap} {f1 f2 f3 : Addr} {d1 d2 d3 : FuncData} {p1 p2 p3 : List Str} {n1 n2 n3 c : Nat} {G1 G2 G3 : Nat → DF}
    (h1 : G1 0 = fun _ _ _ => False) (h2 : G2 0 = fun _ _ _ => False) (h3 : G3 0 = fun _ _ _ => False)
    (step : ∀ (j kk : Nat), c ≤ kk → FnOk P w K mg base (L2.CX P w) kk f1 d1 p1 (spD K n1 (G1 j)) → FnOk P w K mg base (L2.CX P w) kk f2 d2 p2 (spD K n2 (G2 j)) → FnOk P w K mg base (L2.CX P w) kk f3 d3 p3 (spD K n3 (G3 j)) →
      FnOk P w K mg base (L2.CX P w) (kk + 1) f1 d1 p1 (spD K n1 (G1 (j + 1))) ∧ FnOk P w K mg base (L2.CX P w) (kk + 1) f2 d2 p2 (spD K n2 (G2 (j + 1))) ∧ FnOk P w K mg base (L2.CX P w) (kk + 1) f3 d3 p3 (spD K n3 (G3 (j + 1)))) :
    ∀ j, FnOk P w K mg base (L2.CX P w) (c + j) f1 d1 p1 (spD K n1 (G1 j)) ∧ FnOk P w K mg base (L2.CX P w) (c + j) f2 d2 p2 (spD K n2 (G2 j)) ∧ FnOk P w K mg base (L2.CX P w) (c + j) f3 d3 p3 (spD K n3 (G3 j))
  | 0 => ⟨rec_zero h1, rec_zero h2, rec_zero h3⟩
  | j + 1 => by
    obtain ⟨a, b, e⟩ := grp3_ok h1 h2 h3 step j
    exact step j (c + j) (Nat.le_add_right _ _) a b e
/-! ### rules -/
inductive Ru where
  | st (f : Nat → Int) (a d : Int)
  | sp (r : Ru) (lo hi : Int)
  | pa (w : Nat → Int) (r o : Ru)
abbrev stF (a b c : D) : List (Str × D) := [("numbers", a), ("add", b), ("divisor", c)]
abbrev spF (a b c : D) : List (Str × D) := [("rule", a), ("low", b), ("high", c)]
abbrev paF (a b c : D) : List (Str × D) := [("row", a), ("rule", b), ("other", c)]
def stI (CS : Addr) (n : Nat) (f : Nat → Int) (a d : Int) : D := .ins CS (stF (.lst (tabD n f)) (.int a) (.int d))
def ruD (CS CP CA : Addr) (n : Nat) : Ru → D
  | .st f a d => stI CS n f a d
  | .sp r lo hi => .ins CP (spF (ruD CS CP CA n r) (.int lo) (.int hi))
  | .pa w r o => .ins CA (paF (rowW (n + 1) w) (ruD CS CP CA n r) (ruD CS CP CA n o))
def Ru.dep : Ru → Nat
  | .st .. => 0
  | .sp r _ _ => r.dep + 1
  | .pa _ r o => max r.dep o.dep + 1
def Ru.cnt : Ru → Nat
  | .st .. => 1
  | .sp r _ _ => 3 * r.cnt
  | .pa _ r o => r.cnt + o.cnt
/-- rules of numbers that are not great -/
def Ru.ok : Ru → Prop
  | .st f a d => (∀ j, bnd 101 (f j)) ∧ bnd 101 a ∧ 1 ≤ d ∧ bnd 31 d
  | .sp r lo hi => r.ok ∧ bnd 101 lo ∧ bnd 101 hi ∧ lo ≤ hi
  | .pa w r o => (∀ j, bnd 101 (w j)) ∧ r.ok ∧ o.ok
/-- numbers, and a last one -/
def exT (n : Nat) (t : Nat → Int) (b : Int) : Nat → Int := fun j => if j = n then b else t j
abbrev Lf := (Nat → Int) × Int × Int
def stopsF (n : Nat) (l : Lf) (lo hi : Int) : List (List (Nat → Int) × Lf) :=
  [([exT n l.1 (l.2.2 * lo - l.2.1)], (fun _ => 0, lo, 1)),
   ([exT n (fun j => 0 - l.1 j) (0 - (l.2.2 * lo - l.2.1)), exT n l.1 (l.2.2 * hi - l.2.1)], l),
   ([exT n (fun j => 0 - l.1 j) (0 - (l.2.2 * hi - l.2.1))], (fun _ => 0, hi, 1))]
def rcut (n : Nat) : Ru → List (List (Nat → Int) × Lf)
  | .st f a d => [([], (f, a, d))]
  | .sp r lo hi => (rcut n r).flatMap fun p => (stopsF n p.2 lo hi).map fun q => (p.1 ++ q.1, q.2)
  | .pa w r o => (rcut n r).map (fun p => (w :: p.1, p.2)) ++ (rcut n o).map fun p => ((fun j => 0 - w j) :: p.1, p.2)
def pieD (CS : Addr) (n : Nat) (p : List (Nat → Int) × Lf) : D := .tup [.lst (p.1.map (rowW (n + 1))), stI CS n p.2.1 p.2.2.1 p.2.2.2]
end Dl

/-! Rules, part 2: what the methods do. -/
namespace Dl
open PySem PySem.Spec
open PyProof.Rows L2

open Lp
structure RuK (K : PySem.W.Frag) (C_Straight C_Stopped C_Parted C_Rule : Addr) : Prop where
  f_Straight_numbers : FldOk K C_Straight "numbers"
  f_Straight_add : FldOk K C_Straight "add"
  f_Straight_divisor : FldOk K C_Straight "divisor"
  f_Stopped_rule : FldOk K C_Stopped "rule"
  f_Stopped_low : FldOk K C_Stopped "low"
  f_Stopped_high : FldOk K C_Stopped "high"
  f_Parted_row : FldOk K C_Parted "row"
  f_Parted_rule : FldOk K C_Parted "rule"
  f_Parted_other : FldOk K C_Parted "other"
  i_Straight : InsTy K C_Straight
  i_Stopped : InsTy K C_Stopped
  i_Parted : InsTy K C_Parted
  k_Straight_Rule : PySem.W.kitOne K (.ref C_Straight) (.ref C_Rule) = some true
  k_Stopped_Rule : PySem.W.kitOne K (.ref C_Stopped) (.ref C_Rule) = some true
  k_Parted_Rule : PySem.W.kitOne K (.ref C_Parted) (.ref C_Rule) = some true

abbrev g_Straight_init : DI := fun ds Q _ => ∃ (a b c : D), ds = [a, b, c] ∧ knD a ∧ Q (stF a b c)
abbrev g_Stopped_init : DI := fun ds Q _ => ∃ (a b c : D), ds = [a, b, c] ∧ Q (spF a b c)
abbrev g_Parted_init : DI := fun ds Q _ => ∃ (a b c : D), ds = [a, b, c] ∧ Q (paF a b c)
abbrev N_Straight_init : List Str := ["self", "numbers", "add", "divisor"]
def tb_Straight_init (K : PySem.W.Frag) : DS :=
  (dSq (dPutF K 0 "numbers" (dCall 1 [] g_own_list (dCons (dVar 1) dNil))) (dSq (dPutF K 0 "add" (dVar 2)) (dPutF K 0 "divisor" (dVar 3))))
theorem rd_Straight_init {K : PySem.W.Frag} {CS CP CA CR : Addr} (hK : RuK K CS CP CA CR) (x : Addr) (ds : List D) (Q : List (Str × D) → Prop) (E : EQ) (_ : ds.length + 1 = 4) (h : g_Straight_init ds Q E) : tb_Straight_init K (dEI (CS, x) Q E) (startI (CS, x) N_Straight_init ds) := by
  obtain ⟨a, b, c, rfl, ka, q⟩ := h
  have k0 := hK.f_Straight_numbers
  have k1 := hK.f_Straight_add
  have k2 := hK.f_Straight_divisor
  unfold tb_Straight_init dEI startI
  walk_at "go"
  refine ⟨_, rfl, ka, ?_⟩
  walk_at "go"
  first | (refine ⟨Nat.le_of_ble_eq_true rfl, ?_⟩; walk_at "go") | skip
  first | (refine ⟨Nat.le_of_ble_eq_true rfl, ?_⟩; walk_at "go") | skip
  exact q
abbrev N_Stopped_init : List Str := ["self", "rule", "low", "high"]
def tb_Stopped_init (K : PySem.W.Frag) : DS :=
  (dSq (dPutF K 0 "rule" (dVar 1)) (dSq (dPutF K 0 "low" (dVar 2)) (dPutF K 0 "high" (dVar 3))))
theorem rd_Stopped_init {K : PySem.W.Frag} {CS CP CA CR : Addr} (hK : RuK K CS CP CA CR) (x : Addr) (ds : List D) (Q : List (Str × D) → Prop) (E : EQ) (_ : ds.length + 1 = 4) (h : g_Stopped_init ds Q E) : tb_Stopped_init K (dEI (CP, x) Q E) (startI (CP, x) N_Stopped_init ds) := by
  obtain ⟨a, b, c, rfl, q⟩ := h
  have k0 := hK.f_Stopped_rule
  have k1 := hK.f_Stopped_low
  have k2 := hK.f_Stopped_high
  unfold tb_Stopped_init dEI startI
  walk_at "go"
  first | (refine ⟨Nat.le_of_ble_eq_true rfl, ?_⟩; walk_at "go") | skip
  first | (refine ⟨Nat.le_of_ble_eq_true rfl, ?_⟩; walk_at "go") | skip
  exact q
abbrev N_Parted_init : List Str := ["self", "row", "rule", "other"]
def tb_Parted_init (K : PySem.W.Frag) : DS :=
  (dSq (dPutF K 0 "row" (dVar 1)) (dSq (dPutF K 0 "rule" (dVar 2)) (dPutF K 0 "other" (dVar 3))))
theorem rd_Parted_init {K : PySem.W.Frag} {CS CP CA CR : Addr} (hK : RuK K CS CP CA CR) (x : Addr) (ds : List D) (Q : List (Str × D) → Prop) (E : EQ) (_ : ds.length + 1 = 4) (h : g_Parted_init ds Q E) : tb_Parted_init K (dEI (CA, x) Q E) (startI (CA, x) N_Parted_init ds) := by
  obtain ⟨a, b, c, rfl, q⟩ := h
  have k0 := hK.f_Parted_row
  have k1 := hK.f_Parted_rule
  have k2 := hK.f_Parted_other
  unfold tb_Parted_init dEI startI
  walk_at "go"
  first | (refine ⟨Nat.le_of_ble_eq_true rfl, ?_⟩; walk_at "go") | skip
  first | (refine ⟨Nat.le_of_ble_eq_true rfl, ?_⟩; walk_at "go") | skip
  exact q
/-! ### what a rule tells at a point -/
/-! ### the three methods of a rule, one promise -/
def isSt : Ru → Prop
  | .st .. => True
  | _ => False
def isSp : Ru → Prop
  | .sp .. => True
  | _ => False
def isPa : Ru → Prop
  | .pa .. => True
  | _ => False
def GRu {α : Type} (kd : Ru → Prop) (A : Nat → α → List D) (pre : Nat → Ru → α → Prop) (val : Nat → Ru → α → D) (CS CP CA : Addr) : Nat → DF
  | 0 => fun _ _ _ => False
  | j + 1 => fun ds Q _ => ∃ (n : Nat) (r : Ru) (x : α), kd r ∧ ds = ruD CS CP CA n r :: A n x ∧ pre n r x ∧ r.dep ≤ j ∧ Q (val n r x)
theorem disp3 {α : Type} {A : Nat → α → List D} {pre : Nat → Ru → α → Prop} {val : Nat → Ru → α → D} {CS CP CA : Addr} {m : Str} {n j k : Nat} {x : α} {t : TD} {ts : TDs} {ρ : Env'} {Q E : EQ} (r : Ru) (hm : m ≠ "numbers" ∧ m ≠ "add" ∧ m ≠ "divisor" ∧ m ≠ "rule" ∧ m ≠ "low" ∧ m ≠ "high" ∧ m ≠ "row" ∧ m ≠ "other") (hk : (A n x).length + 1 = k) (h1 : r.dep + 1 ≤ j) (o : pre n r x) (ht : ∀ Q' : EQ, Q' (ruD CS CP CA n r) → t ρ Q' E) (hs : ∀ Q'' : List D → Prop, Q'' (A n x) → ts ρ Q'' E) (q : Q (val n r x)) :
    dOrE (dOrE (dMeth CS m k (GRu isSt A pre val CS CP CA j) t ts) (dMeth CP m k (GRu isSp A pre val CS CP CA j) t ts)) (dMeth CA m k (GRu isPa A pre val CS CP CA j) t ts) ρ Q E := by
  obtain ⟨j, rfl⟩ : ∃ i, j = i + 1 := ⟨j - 1, by omega⟩
  obtain ⟨m1, m2, m3, m4, m5, m6, m7, m8⟩ := hm
  have lk : ∀ {a b c : Str} {x y z : D}, m ≠ a → m ≠ b → m ≠ c → List.lookup m [(a, x), (b, y), (c, z)] = none := fun {a b c x y z} h1 h2 h3 => by
    rw [List.lookup_cons, List.lookup_cons, List.lookup_cons, beq_eq_false_iff_ne.mpr h1, beq_eq_false_iff_ne.mpr h2, beq_eq_false_iff_ne.mpr h3]
    rfl
  cases r with
  | st f a d => exact .inl (.inl (ht _ ⟨rfl, lk m1 m2 m3, hs _ ⟨hk, n, .st f a d, x, trivial, rfl, o, by omega, q⟩⟩))
  | sp r lo hi => exact .inl (.inr (ht _ ⟨rfl, lk m4 m5 m6, hs _ ⟨hk, n, .sp r lo hi, x, trivial, rfl, o, by omega, q⟩⟩))
  | pa w r o' => exact .inr (ht _ ⟨rfl, lk m7 m4 m8, hs _ ⟨hk, n, .pa w r o', x, trivial, rfl, o, by omega, q⟩⟩)
abbrev A_many : Nat → Unit → List D := fun n _ => [.int n]
abbrev p_fits : Nat → Ru → Unit → Prop := fun n r _ => 1 ≤ n ∧ n ≤ 3 ∧ r.ok
abbrev G_Straight_fits := GRu isSt A_many p_fits fun _ _ _ => .bl true
abbrev G_Stopped_fits := GRu isSp A_many p_fits fun _ _ _ => .bl true
abbrev G_Parted_fits := GRu isPa A_many p_fits fun _ _ _ => .bl true
abbrev p_cnt : Nat → Ru → Unit → Prop := fun _ r _ => r.cnt ≤ 60
abbrev v_cnt : Nat → Ru → Unit → D := fun _ r _ => .int r.cnt
abbrev G_Rule_counted := GRu isSt (fun _ _ => []) p_cnt v_cnt
abbrev G_Stopped_counted := GRu isSp (fun _ _ => []) p_cnt v_cnt
abbrev G_Parted_counted := GRu isPa (fun _ _ => []) p_cnt v_cnt
abbrev p_cut : Nat → Ru → Unit → Prop := fun n r _ => 1 ≤ n ∧ n ≤ 3 ∧ r.ok ∧ r.cnt ≤ 60 ∧ r.dep ≤ 7
abbrev v_cut (CS : Addr) : Nat → Ru → Unit → D := fun n r _ => .lst ((rcut n r).map (pieD CS n))
abbrev G_Straight_cut (CS CP CA : Addr) := GRu isSt A_many p_cut (v_cut CS) CS CP CA
abbrev G_Stopped_cut (CS CP CA : Addr) := GRu isSp A_many p_cut (v_cut CS) CS CP CA
abbrev G_Parted_cut (CS CP CA : Addr) := GRu isPa A_many p_cut (v_cut CS) CS CP CA
theorem ru_ins {K : PySem.W.Frag} {CS CP CA CR : Addr} (hK : RuK K CS CP CA CR) (n : Nat) (r : Ru) : ∃ C fs, ruD CS CP CA n r = .ins C fs ∧ InsTy K C ∧ PySem.W.kitOne K (.ref C) (.ref CR) = some true := by
  cases r with
  | st f a d => exact ⟨_, _, rfl, hK.i_Straight, hK.k_Straight_Rule⟩
  | sp r lo hi => exact ⟨_, _, rfl, hK.i_Stopped, hK.k_Stopped_Rule⟩
  | pa w r o => exact ⟨_, _, rfl, hK.i_Parted, hK.k_Parted_Rule⟩
abbrev N_Straight_fits : List Str := ["self", "many"]
def tb_Straight_fits (K : PySem.W.Frag) : DS :=
  (dRet (dAndV (dCall 2 [] g_are_wholes (dCons (dFld K "numbers" (dVar 0)) (dCons (dVar 1) dNil))) (dAndV (dCall 1 [] g_is_whole (dCons (dFld K "add" (dVar 0)) dNil)) (dAndV (dCall 1 [] g_is_whole (dCons (dFld K "divisor" (dVar 0)) dNil)) (dOp kGe (dFld K "divisor" (dVar 0)) (dC (.int 1)))))))
theorem rd_Straight_fits {K : PySem.W.Frag} {CS CP CA CR : Addr} (hK : RuK K CS CP CA CR) (j : Nat) (ds : List D) (Q E : EQ) (_ : ds.length = 2) (h : G_Straight_fits CS CP CA (j + 1) ds Q E) : tb_Straight_fits K  (dE Q E) (startD N_Straight_fits ds) := by
  obtain ⟨n, r, _, kd, rfl, ⟨n1, n3, ro⟩, hj, q⟩ := h
  rcases r with ⟨f, a, d⟩ | _ | _ <;> first | exact kd.elim | skip
  have k0 := hK.f_Straight_numbers
  have k1 := hK.f_Straight_add
  have k2 := hK.f_Straight_divisor
  obtain ⟨hf, ha, d1, bd⟩ := ro
  unfold tb_Straight_fits dE
  walk_at "go"
  refine ⟨_, _, rfl, kw_tab n f, ?_⟩
  rw [aw_tab]
  walk_at "go"
  refine ⟨_, _, rfl, rfl, ?_⟩
  walk_at "go"
  refine ⟨_, _, rfl, rfl, ?_⟩
  walk_at "go"
  rw [decide_eq_true (show d ≥ 1 from d1)]
  exact q
abbrev N_Stopped_fits : List Str := ["self", "many"]
def tb_Stopped_fits (K : PySem.W.Frag) (C_Rule C_Straight C_Stopped C_Parted : Addr) (GG_Straight_fits : DF) (GG_Stopped_fits : DF) (GG_Parted_fits : DF) : DS :=
  (dSq (dIf (dOr (dNot (dTest (dCall 1 [] g_is_whole (dCons (dFld K "low" (dVar 0)) dNil)))) (dOr (dNot (dTest (dCall 1 [] g_is_whole (dCons (dFld K "high" (dVar 0)) dNil)))) (dTest (dOp kGt (dFld K "low" (dVar 0)) (dFld K "high" (dVar 0)))))) (dRet (dC (.bl false))) dNext) (dRet (dAndV (dCB (kIsi K) (dCons (dFld K "rule" (dVar 0)) (dCons (dC (.cls C_Rule)) dNil))) (dOrE (dOrE (dMeth C_Straight "fits" 2 GG_Straight_fits (dFld K "rule" (dVar 0)) (dCons (dVar 1) dNil)) (dMeth C_Stopped "fits" 2 GG_Stopped_fits (dFld K "rule" (dVar 0)) (dCons (dVar 1) dNil))) (dMeth C_Parted "fits" 2 GG_Parted_fits (dFld K "rule" (dVar 0)) (dCons (dVar 1) dNil))))))
theorem rd_Stopped_fits {K : PySem.W.Frag} {CS CP CA CR : Addr} (hK : RuK K CS CP CA CR) (j : Nat) (ds : List D) (Q E : EQ) (_ : ds.length = 2) (h : G_Stopped_fits CS CP CA (j + 1) ds Q E) : tb_Stopped_fits K CR CS CP CA (G_Straight_fits CS CP CA j) (G_Stopped_fits CS CP CA j) (G_Parted_fits CS CP CA j) (dE Q E) (startD N_Stopped_fits ds) := by
  obtain ⟨n, r, _, kd, rfl, ⟨n1, n3, ro⟩, hj, q⟩ := h
  rcases r with _ | ⟨r, lo, hi⟩ | _ <;> first | exact kd.elim | skip
  have k0 := hK.f_Stopped_rule
  have k1 := hK.f_Stopped_low
  have k2 := hK.f_Stopped_high
  have hj : r.dep + 1 ≤ j := hj
  obtain ⟨ro, bl, bh, hlh⟩ := ro
  unfold tb_Stopped_fits dE
  walk_at "go"
  refine ⟨_, _, rfl, rfl, ?_⟩
  walk_at "go"
  refine ⟨_, _, rfl, rfl, ?_⟩
  walk_at "go"
  rw [decide_eq_false (show ¬ lo > hi by omega)]
  walk_at "go"
  obtain ⟨C, fs, e, i, k⟩ := ru_ins hK n r
  rw [e]
  refine ⟨i, ?_⟩
  rw [k]
  walk_at "go"
  refine disp3 (n := n) (x := ()) r (by decide) rfl hj ⟨n1, n3, ro⟩ (fun Q' h => ?_) (fun Q'' h => ?_) q
  · walk_at "go"
    exact h
  · walk_at "go"
    exact h
abbrev N_Parted_fits : List Str := ["self", "many"]
def tb_Parted_fits (K : PySem.W.Frag) (C_Rule C_Straight C_Stopped C_Parted : Addr) (GG_Straight_fits : DF) (GG_Stopped_fits : DF) (GG_Parted_fits : DF) : DS :=
  (dSq (dIf (dOr (dNot (dTest (dCall 2 [] g_is_row (dCons (dFld K "row" (dVar 0)) (dCons (dVar 1) dNil))))) (dOr (dNot (dTest (dCB (kIsi K) (dCons (dFld K "rule" (dVar 0)) (dCons (dC (.cls C_Rule)) dNil))))) (dNot (dTest (dCB (kIsi K) (dCons (dFld K "other" (dVar 0)) (dCons (dC (.cls C_Rule)) dNil))))))) (dRet (dC (.bl false))) dNext) (dRet (dAndV (dOrE (dOrE (dMeth C_Straight "fits" 2 GG_Straight_fits (dFld K "rule" (dVar 0)) (dCons (dVar 1) dNil)) (dMeth C_Stopped "fits" 2 GG_Stopped_fits (dFld K "rule" (dVar 0)) (dCons (dVar 1) dNil))) (dMeth C_Parted "fits" 2 GG_Parted_fits (dFld K "rule" (dVar 0)) (dCons (dVar 1) dNil))) (dOrE (dOrE (dMeth C_Straight "fits" 2 GG_Straight_fits (dFld K "other" (dVar 0)) (dCons (dVar 1) dNil)) (dMeth C_Stopped "fits" 2 GG_Stopped_fits (dFld K "other" (dVar 0)) (dCons (dVar 1) dNil))) (dMeth C_Parted "fits" 2 GG_Parted_fits (dFld K "other" (dVar 0)) (dCons (dVar 1) dNil))))))
theorem rd_Parted_fits {K : PySem.W.Frag} {CS CP CA CR : Addr} (hK : RuK K CS CP CA CR) (j : Nat) (ds : List D) (Q E : EQ) (_ : ds.length = 2) (h : G_Parted_fits CS CP CA (j + 1) ds Q E) : tb_Parted_fits K CR CS CP CA (G_Straight_fits CS CP CA j) (G_Stopped_fits CS CP CA j) (G_Parted_fits CS CP CA j) (dE Q E) (startD N_Parted_fits ds) := by
  obtain ⟨n, r, _, kd, rfl, ⟨n1, n3, ro⟩, hj, q⟩ := h
  rcases r with _ | _ | ⟨w, r, o⟩ <;> first | exact kd.elim | skip
  obtain ⟨bw, r1, r2⟩ := ro
  have k0 := hK.f_Parted_rule
  have k1 := hK.f_Parted_row
  have k2 := hK.f_Parted_other
  have hj1 : r.dep + 1 ≤ j := by unfold Ru.dep at hj; omega
  have hj2 : o.dep + 1 ≤ j := by unfold Ru.dep at hj; omega
  unfold tb_Parted_fits dE
  walk_at "go"
  refine ⟨_, _, rfl, kw_row (n + 1) w, ?_⟩
  rw [rw_row]
  walk_at "go"
  obtain ⟨C, fs, e, i, k⟩ := ru_ins hK n r
  rw [e]
  refine ⟨i, ?_⟩
  rw [k]
  walk_at "go"
  obtain ⟨C', fs', e', i', k'⟩ := ru_ins hK n o
  rw [e']
  refine ⟨i', ?_⟩
  rw [k']
  walk_at "go"
  refine disp3 (n := n) (x := ()) r (by decide) rfl hj1 ⟨n1, n3, r1⟩ (fun Q' h => ?_) (fun Q'' h => ?_) ?_
  · walk_at "go"
    exact h
  · walk_at "go"
    exact h
  walk_at "go"
  refine disp3 (n := n) (x := ()) o (by decide) rfl hj2 ⟨n1, n3, r2⟩ (fun Q' h => ?_) (fun Q'' h => ?_) q
  · walk_at "go"
    exact h
  · walk_at "go"
    exact h
abbrev N_Rule_counted : List Str := ["self"]
def tb_Rule_counted  : DS :=
  (dRet (dC (.int 1)))
theorem rd_Rule_counted {K : PySem.W.Frag} {CS CP CA CR : Addr} (hK : RuK K CS CP CA CR) (j : Nat) (ds : List D) (Q E : EQ) (_ : ds.length = 1) (h : G_Rule_counted CS CP CA (j + 1) ds Q E) : tb_Rule_counted  (dE Q E) (startD N_Rule_counted ds) := by
  obtain ⟨n, r, _, kd, rfl, ro, hj, q⟩ := h
  rcases r with ⟨f, a, d⟩ | _ | _ <;> first | exact kd.elim | skip
  unfold tb_Rule_counted dE
  walk_at "go"
  exact q
abbrev N_Stopped_counted : List Str := ["self"]
def tb_Stopped_counted (K : PySem.W.Frag) (C_Straight C_Stopped C_Parted : Addr) (GG_Rule_counted : DF) (GG_Stopped_counted : DF) (GG_Parted_counted : DF) : DS :=
  (dRet (dOp kMul (dC (.int 3)) (dOrE (dOrE (dMeth C_Straight "counted" 1 GG_Rule_counted (dFld K "rule" (dVar 0)) dNil) (dMeth C_Stopped "counted" 1 GG_Stopped_counted (dFld K "rule" (dVar 0)) dNil)) (dMeth C_Parted "counted" 1 GG_Parted_counted (dFld K "rule" (dVar 0)) dNil))))
theorem rd_Stopped_counted {K : PySem.W.Frag} {CS CP CA CR : Addr} (hK : RuK K CS CP CA CR) (j : Nat) (ds : List D) (Q E : EQ) (_ : ds.length = 1) (h : G_Stopped_counted CS CP CA (j + 1) ds Q E) : tb_Stopped_counted K CS CP CA (G_Rule_counted CS CP CA j) (G_Stopped_counted CS CP CA j) (G_Parted_counted CS CP CA j) (dE Q E) (startD N_Stopped_counted ds) := by
  obtain ⟨n, r, _, kd, rfl, ro, hj, q⟩ := h
  rcases r with _ | ⟨r, lo, hi⟩ | _ <;> first | exact kd.elim | skip
  have k0 := hK.f_Stopped_rule
  have hj : r.dep + 1 ≤ j := hj
  have ro : 3 * r.cnt ≤ 60 := ro
  unfold tb_Stopped_counted dE
  walk_at "go"
  refine disp3 (n := n) (x := ()) r (by decide) rfl hj (by omega) (fun Q' h => ?_) (fun Q'' h => ?_) ?_
  · walk_at "go"
    exact h
  · walk_at "go"
    exact h
  have q : Q (.int ((3 * r.cnt : Nat) : Int)) := q
  rw [Int.natCast_mul] at q
  exact ⟨mul_of (bnd_lit (k := 8) (by decide)) (show bnd 8 (r.cnt : Int) from by unfold bnd; rw [Int.natAbs_natCast]; omega) (by decide), q⟩
abbrev N_Parted_counted : List Str := ["self"]
def tb_Parted_counted (K : PySem.W.Frag) (C_Straight C_Stopped C_Parted : Addr) (GG_Rule_counted : DF) (GG_Stopped_counted : DF) (GG_Parted_counted : DF) : DS :=
  (dRet (dOp kAdd (dOrE (dOrE (dMeth C_Straight "counted" 1 GG_Rule_counted (dFld K "rule" (dVar 0)) dNil) (dMeth C_Stopped "counted" 1 GG_Stopped_counted (dFld K "rule" (dVar 0)) dNil)) (dMeth C_Parted "counted" 1 GG_Parted_counted (dFld K "rule" (dVar 0)) dNil)) (dOrE (dOrE (dMeth C_Straight "counted" 1 GG_Rule_counted (dFld K "other" (dVar 0)) dNil) (dMeth C_Stopped "counted" 1 GG_Stopped_counted (dFld K "other" (dVar 0)) dNil)) (dMeth C_Parted "counted" 1 GG_Parted_counted (dFld K "other" (dVar 0)) dNil))))
theorem rd_Parted_counted {K : PySem.W.Frag} {CS CP CA CR : Addr} (hK : RuK K CS CP CA CR) (j : Nat) (ds : List D) (Q E : EQ) (_ : ds.length = 1) (h : G_Parted_counted CS CP CA (j + 1) ds Q E) : tb_Parted_counted K CS CP CA (G_Rule_counted CS CP CA j) (G_Stopped_counted CS CP CA j) (G_Parted_counted CS CP CA j) (dE Q E) (startD N_Parted_counted ds) := by
  obtain ⟨n, r, _, kd, rfl, ro, hj, q⟩ := h
  rcases r with _ | _ | ⟨w, r, o⟩ <;> first | exact kd.elim | skip
  have k0 := hK.f_Parted_rule
  have k2 := hK.f_Parted_other
  have hj1 : r.dep + 1 ≤ j := by unfold Ru.dep at hj; omega
  have hj2 : o.dep + 1 ≤ j := by unfold Ru.dep at hj; omega
  have ro : r.cnt + o.cnt ≤ 60 := ro
  unfold tb_Parted_counted dE
  walk_at "go"
  refine disp3 (n := n) (x := ()) r (by decide) rfl hj1 (by omega) (fun Q' h => ?_) (fun Q'' h => ?_) ?_
  · walk_at "go"
    exact h
  · walk_at "go"
    exact h
  walk_at "go"
  refine disp3 (n := n) (x := ()) o (by decide) rfl hj2 (by omega) (fun Q' h => ?_) (fun Q'' h => ?_) ?_
  · walk_at "go"
    exact h
  · walk_at "go"
    exact h
  have q : Q (.int ((r.cnt + o.cnt : Nat) : Int)) := q
  rw [Int.natCast_add] at q
  exact q
/-! ### pieces -/
abbrev Pc := List (Nat → Int) × Lf
def okLf (l : Lf) : Prop := (∀ j, bnd 101 (l.1 j)) ∧ bnd 101 l.2.1 ∧ 1 ≤ l.2.2 ∧ bnd 31 l.2.2
def okPc (k : Nat) (p : Pc) : Prop := p.1.length ≤ k ∧ (∀ r ∈ p.1, ∀ j, bnd 135 (r j)) ∧ okLf p.2
theorem exT_ok {n B : Nat} {t : Nat → Int} {b : Int} (h1 : ∀ j, bnd B (t j)) (h2 : bnd B b) (j : Nat) : bnd B (exT n t b j) := by
  unfold exT
  split
  · exact h2
  · exact h1 j
theorem neg_bnd {B : Nat} {x : Int} (h : bnd B x) : bnd B (0 - x) := by unfold bnd at *; omega
theorem stops_ok {n : Nat} {l : Lf} {lo hi : Int} (ol : okLf l) (bl : bnd 101 lo) (bh : bnd 101 hi) : ∀ q ∈ stopsF n l lo hi, okPc 2 q := by
  obtain ⟨h1, h2, h3, h4⟩ := ol
  have b1 : ∀ x : Int, bnd 101 x → bnd 135 (l.2.2 * x - l.2.1) := fun x hx => bnd_mono (bnd_subM (bnd_mul h4 hx) h2) (by decide)
  have bz : ∀ j : Nat, bnd 101 ((fun _ => 0 : Nat → Int) j) := fun _ => bnd_zero
  have c1 : ∀ j, bnd 135 (l.1 j) := fun j => bnd_mono (h1 j) (by decide)
  have c2 : ∀ j, bnd 135 (0 - l.1 j) := fun j => neg_bnd (c1 j)
  intro q hq
  unfold stopsF at hq
  rcases List.mem_cons.mp hq with rfl | hq
  · exact ⟨Nat.le_of_ble_eq_true rfl, fun r hr j => by rw [List.mem_singleton.mp hr]; exact exT_ok c1 (b1 _ bl) j, bz, bl, Int.le_refl 1, bnd_one (by decide)⟩
  rcases List.mem_cons.mp hq with rfl | hq
  · refine ⟨Nat.le_of_ble_eq_true rfl, fun r hr j => ?_, h1, h2, h3, h4⟩
    rcases List.mem_cons.mp hr with rfl | hr
    · exact exT_ok c2 (neg_bnd (b1 _ bl)) j
    · rw [List.mem_singleton.mp hr]; exact exT_ok c1 (b1 _ bh) j
  · rw [List.mem_singleton.mp hq]
    exact ⟨by show 1 ≤ 2; decide, fun r hr j => by rw [List.mem_singleton.mp hr]; exact exT_ok c2 (neg_bnd (b1 _ bh)) j, bz, bh, Int.le_refl 1, bnd_one (by decide)⟩
theorem okPc.mono {k m : Nat} {p : Pc} (h : okPc k p) (z : k ≤ m) : okPc m p := ⟨Nat.le_trans h.1 z, h.2⟩
theorem rcut_ok (n : Nat) : ∀ (r : Ru), r.ok → ∀ p ∈ rcut n r, okPc (2 * r.dep) p
  | .st f a d, h => fun p hp => by
    unfold rcut at hp
    rw [List.mem_singleton.mp hp]
    exact ⟨Nat.zero_le _, (fun r hr => nomatch hr), h⟩
  | .sp r lo hi, h => fun p hp => by
    unfold rcut at hp
    obtain ⟨u, hu, hp⟩ := List.mem_flatMap.mp hp
    obtain ⟨v, hv, rfl⟩ := List.mem_map.mp hp
    have i1 := rcut_ok n r h.1 u hu
    have i2 := stops_ok (n := n) i1.2.2 h.2.1 h.2.2.1 v hv
    refine ⟨?_, fun t ht => ?_, i2.2.2⟩
    · have := i1.1
      have := i2.1
      unfold Ru.dep
      rw [List.length_append]
      omega
    · rcases List.mem_append.mp ht with ht | ht
      · exact i1.2.1 t ht
      · exact i2.2.1 t ht
  | .pa w r o, h => fun p hp => by
    have ex : ∀ (u : Pc) (w' : Nat → Int), (∀ j, bnd 101 (w' j)) → okPc (2 * max r.dep o.dep) u → okPc (2 * (max r.dep o.dep + 1)) (w' :: u.1, u.2) := fun u w' hw hu => by
      refine ⟨?_, fun t ht j => ?_, hu.2.2⟩
      · have := hu.1
        rw [List.length_cons]
        omega
      · rcases List.mem_cons.mp ht with rfl | ht
        · exact bnd_mono (hw j) (by decide)
        · exact hu.2.1 t ht j
    unfold rcut at hp
    rcases List.mem_append.mp hp with hp | hp
    · obtain ⟨u, hu, rfl⟩ := List.mem_map.mp hp
      exact ex u w h.1 ((rcut_ok n r h.2.1 u hu).mono (by omega))
    · obtain ⟨u, hu, rfl⟩ := List.mem_map.mp hp
      exact ex u _ (fun j => neg_bnd (h.1 j)) ((rcut_ok n o h.2.2 u hu).mono (by omega))
theorem rcut_len (n : Nat) : ∀ (r : Ru), (rcut n r).length = r.cnt
  | .st f a d => rfl
  | .sp r lo hi => by
    have ih := rcut_len n r
    unfold rcut Ru.cnt
    rw [List.length_flatMap]
    have e : ∀ l : List Pc, (l.map fun p : Pc => ((stopsF n p.2 lo hi).map fun q => (p.1 ++ q.1, q.2)).length).sum = 3 * l.length := fun l => by
      induction l with
      | nil => rfl
      | cons p l ih => rw [List.map_cons, List.sum_cons, ih, List.length_cons, List.length_map]; show 3 + _ = _; omega
    rw [← ih]
    exact e _
  | .pa w r o => by
    have i1 := rcut_len n r
    have i2 := rcut_len n o
    unfold rcut Ru.cnt
    rw [List.length_append, List.length_map, List.length_map, i1, i2]
abbrev g_stops_of (CS : Addr) : DF := fun ds Q _ => ∃ (n : Nat) (l : Lf) (lo hi : Int), ds = [stI CS n l.1 l.2.1 l.2.2, .int lo, .int hi] ∧ n ≤ 3 ∧ okLf l ∧ bnd 101 lo ∧ bnd 101 hi ∧ Q (.lst ((stopsF n l lo hi).map (pieD CS n)))
theorem rowX (n : Nat) (F : Nat → Int) (x : Int) : D.tup (tabD n F ++ [D.int x]) = rowW (n + 1) (exT n F x) := congrArg D.tup (tab_snoc n F x)
abbrev N_stops_of : List Str := ["straight", "low", "high", "up", "down", "number", "flat", "least", "most", "found"]
def tb_stops_of (K : PySem.W.Frag) (C_Straight : Addr) : DS :=
  (dSq (dSet 3 (dFld K "numbers" (dVar 0))) (dSq (dSet 4 (dLc (dSeq (dVar 3)) (gNm 5) dYes (dOp kSub (dC (.int 0)) (dVarP 5)) [5])) (dSq (dSet 6 (dLc (dSeq (dVar 3)) (gNm 5) dYes (dC (.int 0)) [5])) (dSq (dSet 7 (dOp kSub (dOp kMul (dFld K "divisor" (dVar 0)) (dVarP 1)) (dFld K "add" (dVar 0)))) (dSq (dSet 8 (dOp kSub (dOp kMul (dFld K "divisor" (dVar 0)) (dVarP 2)) (dFld K "add" (dVar 0)))) (dSq (dOwn 9 (dLstN (dCons (dTup (dCons (dLst (dCons (dCB kTuple (dCons (dOp kAdd (dVarP 3) (dLst (dCons (dVar 7) dNil))) dNil)) dNil)) (dCons (dMake 4 C_Straight [.int 1] g_Straight_init (dCons (dVar 6) (dCons (dVar 1) dNil))) dNil))) dNil))) (dSq (dApp 9 (dTup (dCons (dLst (dCons (dCB kTuple (dCons (dOp kAdd (dVarP 4) (dLst (dCons (dOp kSub (dC (.int 0)) (dVarP 7)) dNil))) dNil)) (dCons (dCB kTuple (dCons (dOp kAdd (dVarP 3) (dLst (dCons (dVar 8) dNil))) dNil)) dNil))) (dCons (dVar 0) dNil)))) (dSq (dApp 9 (dTup (dCons (dLst (dCons (dCB kTuple (dCons (dOp kAdd (dVarP 4) (dLst (dCons (dOp kSub (dC (.int 0)) (dVarP 8)) dNil))) dNil)) dNil)) (dCons (dMake 4 C_Straight [.int 1] g_Straight_init (dCons (dVar 6) (dCons (dVar 2) dNil))) dNil)))) (dFrz 9 (dRet (dVar 9)))))))))))
theorem rd_stops_of {K : PySem.W.Frag} {CS CP CA CR : Addr} (hK : RuK K CS CP CA CR) (ds : List D) (Q E : EQ) (_ : ds.length = 3) (h : g_stops_of CS ds Q E) : tb_stops_of K CS (dE Q E) (startD N_stops_of ds) := by
  obtain ⟨n, ⟨f, a, d⟩, lo, hi, rfl, n3, ⟨hf, ha, d1, bd⟩, bl, bh, q⟩ := h
  have k0 := hK.f_Straight_numbers
  have k1 := hK.f_Straight_add
  have k2 := hK.f_Straight_divisor
  unfold tb_stops_of dE stI
  walk_at "go"
  refine compL_fun (fun j : Nat => D.int (f j)) (fun j : Nat => D.int (0 - f j)) (List.range n) (fun j hj K1 K0 hK => ?_) ?_
  · walk_at "go"
    exact hK
  rw [show List.map (fun j : Nat => D.int (0 - f j)) (List.range n) = tabD n fun j => 0 - f j from rfl]
  walk_at "go"
  refine compL_fun (fun j : Nat => D.int (f j)) (fun j : Nat => D.int 0) (List.range n) (fun j hj K1 K0 hK => ?_) ?_
  · walk_at "go"
    exact hK
  rw [show List.map (fun j : Nat => D.int 0) (List.range n) = tabD n fun j => 0 from rfl]
  walk_at "go"
  have mf : ∀ (F : Nat → Int) (x : Int), few (tabD n F ++ [D.int x]) := fun F x => few_of (by rw [List.length_append, tab_len, List.length_singleton]; omega)
  refine ⟨_, _, _, rfl, kn_lst _, ?_⟩
  walk_at "go"
  refine ⟨_, _, _, rfl, kn_lst _, ?_⟩
  walk_at "go"
  rw [rowX, rowX, rowX, rowX]
  exact q
/-! ### cut -/
def cutF (n : Nat) (lo hi : Int) (p : Pc) : List Pc := (stopsF n p.2 lo hi).map fun q => (p.1 ++ q.1, q.2)
theorem in_loop {CS : Addr} {n : Nat} {rows : List (Nat → Int)} {d : DE} {a b s4 : Sl} (hr : rows.length ≤ 20) : ∀ (l acc : List Pc) (s5 s6 : Sl), (∀ q ∈ l, q.1.length ≤ 2) → acc.length + l.length ≤ 1000 →
    (∀ s5 s6, d.nx [a, b, .ow ((acc ++ l.map fun q => (rows ++ q.1, q.2)).map (pieD CS n)), .sh (.lst (rows.map (rowW (n + 1)))), s4, s5, s6]) →
    loopD (gTp 2 (gCs (gNm 5) (gCs (gNm 6) gNl))) (dApp 2 (dTup (dCons (dOp kAdd (dVarP 3) (dVarP 5)) (dCons (dVar 6) dNil)))) d (l.map (pieD CS n)) [a, b, .ow (acc.map (pieD CS n)), .sh (.lst (rows.map (rowW (n + 1)))), s4, s5, s6]
  | [], acc, s5, s6, hl, hk, h => lp_nil (by have h := h s5 s6; rw [List.map_nil, List.append_nil] at h; exact h)
  | q :: l, acc, s5, s6, hl, hk, h => by
    have h1 := hl q List.mem_cons_self
    rw [List.length_cons] at hk
    refine lp_cons ?_
    unfold pieD
    walk_at "go"
    have e : pieD CS n (rows ++ q.1, q.2) = D.tup [.lst (rows.map (rowW (n + 1)) ++ q.1.map (rowW (n + 1))), stI CS n q.2.1 q.2.2.1 q.2.2.2] := by unfold pieD; rw [List.map_append]
    have ih := in_loop (CS := CS) (n := n) (d := d) (a := a) (b := b) (s4 := s4) hr l (acc ++ [(rows ++ q.1, q.2)]) (.sh (.lst (q.1.map (rowW (n + 1))))) (.sh (stI CS n q.2.1 q.2.2.1 q.2.2.2)) (fun x hx => hl x (List.mem_cons_of_mem _ hx)) (by rw [List.length_append, List.length_singleton]; omega) (fun s5 s6 => by
      have h := h s5 s6
      rw [List.map_cons] at h
      rw [List.append_assoc]
      exact h)
    rw [List.map_append, List.map_singleton, e] at ih
    exact ih
theorem out_loop {K : PySem.W.Frag} {CS CP CA CR : Addr} (hK : RuK K CS CP CA CR) {n : Nat} {r : Ru} {lo hi : Int} {d : DE} {b : Sl} (n3 : n ≤ 3) (bl : bnd 101 lo) (bh : bnd 101 hi) : ∀ (l acc : List Pc) (s3 s4 s5 s6 : Sl), (∀ q ∈ l, okPc 20 q) → acc.length + 3 * l.length ≤ 900 →
    (∀ s3 s4 s5 s6, d.nx [.sh (ruD CS CP CA n (.sp r lo hi)), b, .ow ((acc ++ l.flatMap (cutF n lo hi)).map (pieD CS n)), s3, s4, s5, s6]) →
    loopD (gTp 2 (gCs (gNm 3) (gCs (gNm 4) gNl))) (dFor (dSeq (dCall 3 [] (g_stops_of CS) (dCons (dVar 4) (dCons (dFld K "low" (dVar 0)) (dCons (dFld K "high" (dVar 0)) dNil))))) (gTp 2 (gCs (gNm 5) (gCs (gNm 6) gNl))) (dApp 2 (dTup (dCons (dOp kAdd (dVarP 3) (dVarP 5)) (dCons (dVar 6) dNil))))) d (l.map (pieD CS n)) [.sh (ruD CS CP CA n (.sp r lo hi)), b, .ow (acc.map (pieD CS n)), s3, s4, s5, s6]
  | [], acc, s3, s4, s5, s6, hl, hk, h => lp_nil (by have h := h s3 s4 s5 s6; rw [List.flatMap_nil, List.append_nil] at h; exact h)
  | q :: l, acc, s3, s4, s5, s6, hl, hk, h => by
    have h1 := hl q List.mem_cons_self
    have k1 := hK.f_Stopped_low
    have k2 := hK.f_Stopped_high
    rw [List.length_cons] at hk
    refine lp_cons ?_
    unfold pieD
    walk_at "go"
    refine ⟨n, q.2, lo, hi, rfl, n3, h1.2.2, bl, bh, ?_⟩
    walk_at "go"
    refine in_loop (n := n) h1.1 (stopsF n q.2 lo hi) acc s5 s6 (fun x hx => (stops_ok h1.2.2 bl bh x hx).1) (by show acc.length + 3 ≤ 1000; omega) fun s5 s6 => ?_
    exact out_loop hK (r := r) (lo := lo) (hi := hi) (d := d) (b := b) n3 bl bh l (acc ++ cutF n lo hi q) _ _ s5 s6 (fun x hx => hl x (List.mem_cons_of_mem _ hx)) (by rw [List.length_append]; show acc.length + 3 + _ ≤ 900; omega) fun s3 s4 s5 s6 => by
      have h := h s3 s4 s5 s6
      rw [List.flatMap_cons] at h
      rw [List.append_assoc]
      exact h
abbrev N_Stopped_cut : List Str := ["self", "many", "found", "rows", "straight", "row", "other"]
def tb_Stopped_cut (K : PySem.W.Frag) (C_Straight C_Stopped C_Parted : Addr) (GG_Straight_cut : DF) (GG_Stopped_cut : DF) (GG_Parted_cut : DF) : DS :=
  (dSq (dOwn 2 (dLstN dNil)) (dSq (dFor (dSeq (dOrE (dOrE (dMeth C_Straight "cut" 2 GG_Straight_cut (dFld K "rule" (dVar 0)) (dCons (dVar 1) dNil)) (dMeth C_Stopped "cut" 2 GG_Stopped_cut (dFld K "rule" (dVar 0)) (dCons (dVar 1) dNil))) (dMeth C_Parted "cut" 2 GG_Parted_cut (dFld K "rule" (dVar 0)) (dCons (dVar 1) dNil)))) (gTp 2 (gCs (gNm 3) (gCs (gNm 4) gNl))) (dFor (dSeq (dCall 3 [] (g_stops_of C_Straight) (dCons (dVar 4) (dCons (dFld K "low" (dVar 0)) (dCons (dFld K "high" (dVar 0)) dNil))))) (gTp 2 (gCs (gNm 5) (gCs (gNm 6) gNl))) (dApp 2 (dTup (dCons (dOp kAdd (dVarP 3) (dVarP 5)) (dCons (dVar 6) dNil)))))) (dFrz 2 (dRet (dVar 2)))))
theorem rd_Stopped_cut {K : PySem.W.Frag} {CS CP CA CR : Addr} (hK : RuK K CS CP CA CR) (j : Nat) (ds : List D) (Q E : EQ) (_ : ds.length = 2) (h : G_Stopped_cut CS CP CA (j + 1) ds Q E) : tb_Stopped_cut K CS CP CA (G_Straight_cut CS CP CA j) (G_Stopped_cut CS CP CA j) (G_Parted_cut CS CP CA j) (dE Q E) (startD N_Stopped_cut ds) := by
  obtain ⟨n, r, _, kd, rfl, ⟨n1, n3, ro, hc, hd⟩, hj, q⟩ := h
  rcases r with _ | ⟨r, lo, hi⟩ | _ <;> first | exact kd.elim | skip
  obtain ⟨ro, bl, bh, hlh⟩ := ro
  have k0 := hK.f_Stopped_rule
  have hj : r.dep + 1 ≤ j := hj
  have hd : r.dep + 1 ≤ 7 := hd
  have hc : 3 * r.cnt ≤ 60 := hc
  have rk := rcut_ok n r ro
  have rl := rcut_len n r
  unfold tb_Stopped_cut dE
  walk_at "go"
  refine disp3 (n := n) (x := ()) r (by decide) rfl hj ⟨n1, n3, ro, by omega, by omega⟩ (fun Q' h => ?_) (fun Q'' h => ?_) ?_
  · walk_at "go"
    exact h
  · walk_at "go"
    exact h
  walk_at "go"
  refine out_loop hK n3 bl bh (rcut n r) [] _ _ _ _ (fun p hp => (rk p hp).mono (by omega)) (by rw [rl]; show 0 + 3 * r.cnt ≤ 900; omega) fun s3 s4 s5 s6 => ?_
  walk_at "go"
  exact q
abbrev N_Straight_cut : List Str := ["self", "many"]
def tb_Straight_cut (K : PySem.W.Frag) (C_Straight : Addr) : DS :=
  (dRet (dLst (dCons (dTup (dCons (dLst dNil) (dCons (dMake 4 C_Straight [] g_Straight_init (dCons (dFld K "numbers" (dVar 0)) (dCons (dFld K "add" (dVar 0)) (dCons (dFld K "divisor" (dVar 0)) dNil)))) dNil))) dNil)))
theorem rd_Straight_cut {K : PySem.W.Frag} {CS CP CA CR : Addr} (hK : RuK K CS CP CA CR) (j : Nat) (ds : List D) (Q E : EQ) (_ : ds.length = 2) (h : G_Straight_cut CS CP CA (j + 1) ds Q E) : tb_Straight_cut K CS (dE Q E) (startD N_Straight_cut ds) := by
  obtain ⟨n, r, _, kd, rfl, ⟨n1, n3, ro, hc, hd⟩, hj, q⟩ := h
  rcases r with ⟨f, a, d⟩ | _ | _ <;> first | exact kd.elim | skip
  have k0 := hK.f_Straight_numbers
  have k1 := hK.f_Straight_add
  have k2 := hK.f_Straight_divisor
  unfold tb_Straight_cut dE
  walk_at "go"
  refine ⟨_, _, _, rfl, kn_lst _, ?_⟩
  walk_at "go"
  exact q
abbrev N_Parted_cut : List Str := ["self", "many", "back", "number", "found", "rows", "straight"]
def tb_Parted_cut (K : PySem.W.Frag) (C_Straight C_Stopped C_Parted : Addr) (GG_Straight_cut : DF) (GG_Stopped_cut : DF) (GG_Parted_cut : DF) : DS :=
  (dSq (dSet 2 (dCB kTuple (dCons (dFz (dLcN (dSeq (dFld K "row" (dVar 0))) (gNm 3) dYes (dOp kSub (dC (.int 0)) (dVarP 3)) [3])) dNil))) (dSq (dSet 4 (dLc (dSeq (dOrE (dOrE (dMeth C_Straight "cut" 2 GG_Straight_cut (dFld K "rule" (dVar 0)) (dCons (dVar 1) dNil)) (dMeth C_Stopped "cut" 2 GG_Stopped_cut (dFld K "rule" (dVar 0)) (dCons (dVar 1) dNil))) (dMeth C_Parted "cut" 2 GG_Parted_cut (dFld K "rule" (dVar 0)) (dCons (dVar 1) dNil)))) (gTp 2 (gCs (gNm 5) (gCs (gNm 6) gNl))) dYes (dTup (dCons (dOp kAdd (dLst (dCons (dFld K "row" (dVar 0)) dNil)) (dVarP 5)) (dCons (dVar 6) dNil))) [5, 6])) (dRet (dOp kAdd (dVarP 4) (dFz (dLcN (dSeq (dOrE (dOrE (dMeth C_Straight "cut" 2 GG_Straight_cut (dFld K "other" (dVar 0)) (dCons (dVar 1) dNil)) (dMeth C_Stopped "cut" 2 GG_Stopped_cut (dFld K "other" (dVar 0)) (dCons (dVar 1) dNil))) (dMeth C_Parted "cut" 2 GG_Parted_cut (dFld K "other" (dVar 0)) (dCons (dVar 1) dNil)))) (gTp 2 (gCs (gNm 5) (gCs (gNm 6) gNl))) dYes (dTup (dCons (dOp kAdd (dLst (dCons (dVar 2) dNil)) (dVarP 5)) (dCons (dVar 6) dNil))) [5, 6]))))))
theorem rd_Parted_cut {K : PySem.W.Frag} {CS CP CA CR : Addr} (hK : RuK K CS CP CA CR) (j : Nat) (ds : List D) (Q E : EQ) (_ : ds.length = 2) (h : G_Parted_cut CS CP CA (j + 1) ds Q E) : tb_Parted_cut K CS CP CA (G_Straight_cut CS CP CA j) (G_Stopped_cut CS CP CA j) (G_Parted_cut CS CP CA j) (dE Q E) (startD N_Parted_cut ds) := by
  obtain ⟨n, r, _, kd, rfl, ⟨n1, n3, ro, hc, hd⟩, hj, q⟩ := h
  rcases r with _ | _ | ⟨w, r, o⟩ <;> first | exact kd.elim | skip
  obtain ⟨bw, r1, r2⟩ := ro
  have k0 := hK.f_Parted_rule
  have k1 := hK.f_Parted_row
  have k2 := hK.f_Parted_other
  have hj1 : r.dep + 1 ≤ j := by unfold Ru.dep at hj; omega
  have hj2 : o.dep + 1 ≤ j := by unfold Ru.dep at hj; omega
  have hc : r.cnt + o.cnt ≤ 60 := hc
  have rk1 := rcut_ok n r r1
  have rl1 := rcut_len n r
  have rk2 := rcut_ok n o r2
  have rl2 := rcut_len n o
  have q : Q (.lst (((rcut n r).map (fun p => (w :: p.1, p.2)) ++ (rcut n o).map fun p => ((fun j => 0 - w j) :: p.1, p.2)).map (pieD CS n))) := q
  rw [List.map_append, List.map_map, List.map_map] at q
  unfold tb_Parted_cut dE
  walk_at "go"
  refine compL_fun (fun j : Nat => D.int (w j)) (fun j : Nat => D.int (0 - w j)) (List.range (n + 1)) (fun j hj K1 K0 hK => ?_) ?_
  · walk_at "go"
    exact hK
  rw [show List.map (fun j : Nat => D.int (0 - w j)) (List.range (n + 1)) = tabD (n + 1) fun j => 0 - w j from rfl]
  walk_at "go"
  refine disp3 (n := n) (x := ()) r (by decide) rfl hj1 ⟨n1, n3, r1, by omega, by unfold Ru.dep at hd; omega⟩ (fun Q' h => ?_) (fun Q'' h => ?_) ?_
  · walk_at "go"
    exact h
  · walk_at "go"
    exact h
  walk_at "go"
  refine compL_fun (pieD CS n) (fun p : Pc => pieD CS n (w :: p.1, p.2)) (rcut n r) (fun p hp K1 K0 hK => ?_) ?_
  · have := (rk1 p hp).1
    unfold Ru.dep at hd
    walk_at "go"
    exact hK
  walk_at "go"
  refine disp3 (n := n) (x := ()) o (by decide) rfl hj2 ⟨n1, n3, r2, by omega, by unfold Ru.dep at hd; omega⟩ (fun Q' h => ?_) (fun Q'' h => ?_) ?_
  · walk_at "go"
    exact h
  · walk_at "go"
    exact h
  walk_at "go"
  refine compL_fun (pieD CS n) (fun p : Pc => pieD CS n ((fun j => 0 - w j) :: p.1, p.2)) (rcut n o) (fun p hp K1 K0 hK => ?_) ?_
  · have := (rk2 p hp).1
    unfold Ru.dep at hd
    walk_at "go"
    exact hK
  walk_at "go"
  exact q
abbrev g_pieces (CS CP CA : Addr) : DF := fun ds Q _ => ∃ (n : Nat) (r : Ru), ds = [ruD CS CP CA n r, .int n] ∧ 1 ≤ n ∧ n ≤ 3 ∧ r.ok ∧ r.cnt ≤ 60 ∧ r.dep ≤ 7 ∧ Q (.lst ((rcut n r).map (pieD CS n)))
abbrev N_pieces : List Str := ["rule", "many"]
def tb_pieces (K : PySem.W.Frag) (C_Rule C_Straight C_Stopped C_Parted : Addr) : DS :=
  (dSq (dIf (dOr (dNot (dTest (dCB (kIsi K) (dCons (dVarP 0) (dCons (dC (.cls C_Rule)) dNil))))) (dNot (dTest (dOrE (dOrE (dMeth C_Straight "fits" 2 (G_Straight_fits C_Straight C_Stopped C_Parted 8) (dVar 0) (dCons (dVar 1) dNil)) (dMeth C_Stopped "fits" 2 (G_Stopped_fits C_Straight C_Stopped C_Parted 8) (dVar 0) (dCons (dVar 1) dNil))) (dMeth C_Parted "fits" 2 (G_Parted_fits C_Straight C_Stopped C_Parted 8) (dVar 0) (dCons (dVar 1) dNil)))))) dNever dNext) (dSq (dIf (dTest (dOp kGt (dOrE (dOrE (dMeth C_Straight "counted" 1 (G_Rule_counted C_Straight C_Stopped C_Parted 8) (dVar 0) dNil) (dMeth C_Stopped "counted" 1 (G_Stopped_counted C_Straight C_Stopped C_Parted 8) (dVar 0) dNil)) (dMeth C_Parted "counted" 1 (G_Parted_counted C_Straight C_Stopped C_Parted 8) (dVar 0) dNil)) (dC (.int 60)))) dNever dNext) (dRet (dOrE (dOrE (dMeth C_Straight "cut" 2 (G_Straight_cut C_Straight C_Stopped C_Parted 8) (dVar 0) (dCons (dVar 1) dNil)) (dMeth C_Stopped "cut" 2 (G_Stopped_cut C_Straight C_Stopped C_Parted 8) (dVar 0) (dCons (dVar 1) dNil))) (dMeth C_Parted "cut" 2 (G_Parted_cut C_Straight C_Stopped C_Parted 8) (dVar 0) (dCons (dVar 1) dNil))))))
theorem rd_pieces {K : PySem.W.Frag} {CS CP CA CR : Addr} (hK : RuK K CS CP CA CR) (ds : List D) (Q E : EQ) (_ : ds.length = 2) (h : g_pieces CS CP CA ds Q E) : tb_pieces K CR CS CP CA (dE Q E) (startD N_pieces ds) := by
  obtain ⟨n, r, rfl, n1, n3, ro, hc, hd, q⟩ := h
  unfold tb_pieces dE
  walk_at "go"
  obtain ⟨C, fs, e, i, k⟩ := ru_ins hK n r
  rw [e]
  refine ⟨i, ?_⟩
  rw [k, ← e]
  walk_at "go"
  refine disp3 (n := n) (x := ()) r (by decide) rfl (by omega) ⟨n1, n3, ro⟩ (fun Q' h => ?_) (fun Q'' h => ?_) ?_
  · walk_at "go"
    exact h
  · walk_at "go"
    exact h
  walk_at "go"
  refine disp3 (n := n) (x := ()) r (by decide) rfl (by omega) hc (fun Q' h => ?_) (fun Q'' h => ?_) ?_
  · walk_at "go"
    exact h
  · walk_at "go"
    exact h
  walk_at "go"
  rw [decide_eq_false (show ¬ (r.cnt : Int) > 60 by omega)]
  walk_at "go"
  refine disp3 (n := n) (x := ()) r (by decide) rfl (by omega) ⟨n1, n3, ro, hc, hd⟩ (fun Q' h => ?_) (fun Q'' h => ?_) ?_
  · walk_at "go"
    exact h
  · walk_at "go"
    exact h
  exact q
end Dl

/-! Rules, part 3: what their laws draw. -/
namespace Dl
open PySem PySem.Spec
open PyProof.Rows L2


abbrev g_stream31 : DF := fun ds Q _ => ∃ (c : Int) (m : Nat), ds = [.int c, .int m] ∧ m ≤ 1000 ∧ ∀ X : Nat → Int, (∀ j, 0 ≤ X j ∧ X j < 2147483647) → Q (.lst (tabD m X))
abbrev N_stream31 : List Str := ["_law_cell", "_law_many", "_law_found", "_law_rest", "_law_k", "_law_number_here"]
def tb_stream31  : DS :=
  (dSq (dOwn 2 (dLstN dNil)) (dSq (dIf (dTest (dOp kGe (dVarP 0) (dOp kPow (dC (.int 10)) (dC (.int 30))))) (dSq (dSet 3 (dOp kSub (dVarP 0) (dOp kPow (dC (.int 10)) (dC (.int 30))))) (dSq (dFor (dRng1 (dVarP 1)) (gNm 4) (dSq (dApp 2 (dOp kMod (dVarP 3) (dC (.int 2147483647)))) (dSet 3 (dOp kDiv (dVarP 3) (dC (.int 2147483647)))))) (dFrz 2 (dRet (dVar 2))))) dNext) (dSq (dSet 5 (dOp kAdd (dOp kMod (dVarP 0) (dC (.int 2147483647))) (dC (.int 48271)))) (dSq (dFor (dRng1 (dOp kAdd (dVarP 1) (dC (.int 2)))) (gNm 4) (dSq (dSet 5 (dOp kMod (dOp kAdd (dOp kAdd (dOp kMul (dVarP 5) (dVarP 5)) (dOp kMul (dC (.int 48271)) (dVarP 5))) (dVarP 4)) (dC (.int 2147483647)))) (dApp 2 (dVar 5)))) (dRet (dSl (dVarP 2) (dPart (dC (.int 2))) dNoPart))))))

theorem s31_a {d : DE} {a b : Sl} {M : Nat} : ∀ (t k i : Nat) (F : Nat → Int) (rest : Int) (s4 : Sl), M ≤ 1000 → k + t = M → (∀ j, 0 ≤ F j ∧ F j < 2147483647) →
    (∀ (F : Nat → Int) (s3 s4 : Sl), (∀ j, 0 ≤ F j ∧ F j < 2147483647) → d.nx [a, b, .ow (tabD M F), s3, s4, .no]) →
    loopD (gNm 4) (dSq (dApp 2 (dOp kMod (dVarP 3) (dC (.int 2147483647)))) (dSet 3 (dOp kDiv (dVarP 3) (dC (.int 2147483647))))) d (irg i t) [a, b, .ow (tabD k F), .sh (.int rest), s4, .no]
  | 0, k, i, F, rest, s4, hM, hk, hF, h => by
    have e : k = M := by omega
    subst e
    exact lp_r0 (h F _ _ hF)
  | t + 1, k, i, F, rest, s4, hM, hk, hF, h => by
    refine lp_rs ?_
    walk_at "rd"
    walk_at "go"
    rw [tab_snoc]
    walk_at "go"
    refine s31_a t (k + 1) (i + 1) _ _ _ hM (by omega) (fun j => ?_) h
    by_cases hj : j = k
    · rw [if_pos hj]
      exact ⟨Int.fmod_nonneg_of_pos _ (by omega), Int.fmod_lt_of_pos _ (by omega)⟩
    · rw [if_neg hj]; exact hF j
theorem s31_b {d : DE} {a b s3 : Sl} {M : Nat} : ∀ (t k i : Nat) (F : Nat → Int) (x : Int) (s4 : Sl), M ≤ 2000 → i + t ≤ 2000 → k + t = M → (0 ≤ x ∧ x < 4294967296) → (∀ j, 0 ≤ F j ∧ F j < 2147483647) →
    (∀ (F : Nat → Int) (s4 s5 : Sl), (∀ j, 0 ≤ F j ∧ F j < 2147483647) → d.nx [a, b, .ow (tabD M F), s3, s4, s5]) →
    loopD (gNm 4) (dSq (dSet 5 (dOp kMod (dOp kAdd (dOp kAdd (dOp kMul (dVarP 5) (dVarP 5)) (dOp kMul (dC (.int 48271)) (dVarP 5))) (dVarP 4)) (dC (.int 2147483647)))) (dApp 2 (dVar 5))) d (irg i t) [a, b, .ow (tabD k F), s3, s4, .sh (.int x)]
  | 0, k, i, F, x, s4, hM, hi, hk, hx, hF, h => by
    have e : k = M := by omega
    subst e
    exact lp_r0 (h F _ _ hF)
  | t + 1, k, i, F, x, s4, hM, hi, hk, hx, hF, h => by
    refine lp_rs ?_
    walk_at "rd"
    walk_at "go"
    rw [tab_snoc]
    walk_at "go"
    have hp : (0 : Int) < 2147483647 := by omega
    have m1 := Int.fmod_nonneg_of_pos (x * x + 48271 * x + i) hp
    have m2 := Int.fmod_lt_of_pos (x * x + 48271 * x + i) hp
    refine s31_b t (k + 1) (i + 1) _ _ _ hM (by omega) (by omega) ⟨m1, by omega⟩ (fun j => ?_) h
    by_cases hj : j = k
    · rw [if_pos hj]; exact ⟨m1, by omega⟩
    · rw [if_neg hj]; exact hF j
theorem rd_stream31 (ds : List D) (Q E : EQ) (_ : ds.length = 2) (h : g_stream31 ds Q E) : tb_stream31 (dE Q E) (startD N_stream31 ds) := by
  obtain ⟨c, m, rfl, hm, q⟩ := h
  unfold tb_stream31 dE
  walk_at "go"
  have t0 : ∀ G : Nat → Int, ([] : List D) = tabD 0 G := fun _ => rfl
  by_cases hc : (1000000000000000000000000000000 : Int) ≤ c
  · rw [decide_eq_true hc]
    walk_at "go"
    rw [t0 (fun _ => 0), Int.toNat_natCast]
    refine s31_a (M := m) m 0 0 _ _ _ (by omega) (by omega) (fun _ => ⟨by omega, by omega⟩) fun F s3 s4 hF => ?_
    walk_at "rd"
    exact q F hF
  · rw [decide_eq_false hc]
    walk_at "go"
    rw [t0 (fun _ => 0), show ((m : Int) + 2).toNat = m + 2 by omega]
    have hp : (0 : Int) < 2147483647 := by omega
    have m1 := Int.fmod_nonneg_of_pos c hp
    have m2 := Int.fmod_lt_of_pos c hp
    refine s31_b (M := m + 2) (m + 2) 0 0 _ _ _ (by omega) (by omega) (by omega) ⟨by omega, by omega⟩ (fun _ => ⟨by omega, by omega⟩) fun F s4 s5 hF => ?_
    walk_at "rd"
    rw [cut_2]
    exact q _ fun j => hF _
/-! ### cells of the script, or of a part of it -/
abbrev g_cellL : DF := fun ds Q _ => ∃ (ns : List Int) (k : Nat) (d : D), ds = [d, .int k] ∧ (d = .frl (ns.map .int) ∨ d = .lst (ns.map .int)) ∧ Q (.int (ns.getD k 0))
abbrev N_cellL : List Str := N__law_cell_at
abbrev tb_cellL : DS := tb__law_cell_at
theorem rd_cellL (ds : List D) (Q E : EQ) (_ : ds.length = 2) (h : g_cellL ds Q E) : tb_cellL (dE Q E) (startD N_cellL ds) := by
  obtain ⟨ns, k, d, rfl, hd, q⟩ := h
  rw [List.getD_eq_getElem?_getD] at q
  unfold tb_cellL tb__law_cell_at dE
  rcases hd with rfl | rfl
  all_goals
    walk_at "rd"
    rw [List.length_map]
    by_cases hk : k < ns.length
    · rw [decide_eq_true (by omega)]
      walk_at "rd"
      rw [atI_nn, List.getElem?_map, List.getElem?_eq_getElem hk]
      rw [List.getElem?_eq_getElem hk] at q
      exact q
    · rw [decide_eq_false (by omega)]
      walk_at "rd"
      rw [List.getElem?_eq_none (by omega)] at q
      exact q
/-! ### numbers -/
/-! ### fractions -/
end Dl

/-! Runs, part 1: fractions as rational numbers; the points of a run. -/
namespace Dl
open PySem PySem.Spec
open PyProof.Rows L2

open Lp

/-! ### fractions as rational numbers -/
abbrev qn (q : Rat) : Int × Int := (q.num, (q.den : Int))
theorem qn_pos (q : Rat) : 0 < (qn q).2 := Int.natCast_pos.mpr q.den_pos
theorem qv_qn (q : Rat) : qv (qn q) = q := by
  unfold qv
  show (q.num : Rat) / ((q.den : Int) : Rat) = q
  rw [← Rat.divInt_eq_div, Rat.num_divInt_den]
theorem frX_qn (q : Rat) : frX (qn q) = qn q := by
  have h : (Int.gcd q.num (q.den : Int) : Int) = 1 := by
    have := q.reduced
    unfold Nat.Coprime at this
    unfold Int.gcd
    show (Nat.gcd q.num.natAbs (q.den : Int).natAbs : Int) = 1
    rw [Int.natAbs_natCast, this]
    rfl
  have e := fr_self (qn_pos q) h
  unfold fr at e
  injection e with e
  injection e with e1 e
  injection e with e2 e
  injection e1 with e1
  injection e2 with e2
  unfold frX
  rw [e1, e2]
theorem frX_can {p : Int × Int} (hp : 0 < p.2) : frX p = qn (qv p) := by
  rw [← frX_qn, frX_eq hp (qn_pos _), qv_qn]
/-- a number over a bottom, its top not great -/
def ov (B : Int) (t : Nat) (q : Rat) : Prop := ∃ z : Int, q = (z : Rat) / (B : Rat) ∧ bnd t z
theorem ov_sm {B : Int} {t : Nat} {q : Rat} (hB : 0 < B) (h : ov B t q) : bnd t q.num ∧ (q.den : Int) ≤ B := by
  obtain ⟨z, e, hz⟩ := h
  have e1 : frX (z, B) = qn q := by rw [frX_can hB]; exact congrArg qn e.symm
  obtain ⟨f1, f2, f3, f4, f5⟩ := frX_ok (p := (z, B)) (show B ≠ 0 by omega)
  rw [e1] at f1 f4 f5
  exact ⟨bnd_le f4 hz, by have f1 : (0 : Int) < q.den := f1; have f5 : (q.den : Int).natAbs ≤ B.natAbs := f5; omega⟩
theorem ov_bot {B : Int} {t k : Nat} {q : Rat} (hB : 0 < B) (kB : bnd k B) (h : ov B t q) : bnd k (q.den : Int) := by
  have h1 := (ov_sm hB h).2
  have h2 := qn_pos q
  have h2 : (0 : Int) < q.den := h2
  exact bnd_le (by omega) kB
theorem ov_mono {B : Int} {t u : Nat} {q : Rat} (h : ov B t q) (k : t ≤ u) : ov B u q := by
  obtain ⟨z, e, hz⟩ := h
  exact ⟨z, e, bnd_mono hz k⟩
theorem ov_add {B : Int} {t : Nat} {x y : Rat} (hx : ov B t x) (hy : ov B t y) : ov B (t + 1) (x + y) := by
  obtain ⟨u, e1, hu⟩ := hx
  obtain ⟨v, e2, hv⟩ := hy
  refine ⟨u + v, ?_, bnd_add hu hv⟩
  rw [e1, e2, Rat.intCast_add]
  grind
theorem ov_int {B : Int} {t k : Nat} {x : Rat} {r : Int} (hx : ov B t x) (hr : bnd k r) : ov B (k + t) ((r : Rat) * x) := by
  obtain ⟨u, e1, hu⟩ := hx
  refine ⟨r * u, ?_, bnd_mul hr hu⟩
  rw [e1, Rat.intCast_mul]
  grind
theorem ov_whole {B : Int} {k j : Nat} (hB : 0 < B) (kB : bnd k B) {r : Int} (hr : bnd j r) : ov B (j + k) (r : Rat) := by
  have p := pos_q hB
  refine ⟨r * B, ?_, bnd_mul hr kB⟩
  rw [Rat.intCast_mul]
  grind
theorem ov_up {B c : Int} {t k : Nat} {x : Rat} (hx : ov B t x) (hB : 0 < B) (hc : 0 < c) (kc : bnd k c) : ov (B * c) (t + k) x := by
  obtain ⟨u, e1, hu⟩ := hx
  refine ⟨u * c, ?_, bnd_mul hu kc⟩
  have p := pos_q hB
  have p' := pos_q hc
  rw [e1, Rat.intCast_mul, Rat.intCast_mul]
  grind
theorem ov_div {B c : Int} {t : Nat} {x : Rat} (hx : ov B t x) (hB : 0 < B) (hc : 0 < c) : ov (B * c) t (x / (c : Rat)) := by
  obtain ⟨u, e1, hu⟩ := hx
  refine ⟨u, ?_, hu⟩
  have p := pos_q hB
  have p' := pos_q hc
  rw [e1, Rat.intCast_mul]
  grind
/-! ### sums of so many times numbers -/
def tot : List Int → List Rat → Rat
  | r :: rs, y :: ys => (r : Rat) * y + tot rs ys
  | _, _ => 0
theorem ov_zero {B : Int} (t : Nat) : ov B t 0 := ⟨0, by rw [show ((0 : Int) : Rat) = 0 from rfl]; grind, bnd_zero⟩
theorem tot_ov {B : Int} {t k : Nat} : ∀ (rs : List Int) (ys : List Rat), (∀ r ∈ rs, bnd k r) → (∀ y ∈ ys, ov B t y) → ov B (k + t + ys.length) (tot rs ys)
  | [], ys, _, _ => by unfold tot; exact ov_zero _
  | r :: rs, [], _, _ => by unfold tot; exact ov_zero _
  | r :: rs, y :: ys, hr, hy => by
    unfold tot
    have h1 := ov_int (hy y List.mem_cons_self) (hr r List.mem_cons_self)
    have h2 := tot_ov rs ys (fun r h => hr r (List.mem_cons_of_mem _ h)) (fun y h => hy y (List.mem_cons_of_mem _ h))
    exact ov_mono (ov_add (ov_mono h1 (by omega)) h2) (by rw [List.length_cons]; omega)
/-- numbers over one bottom -/
structure Ovs (B : Int) (t : Nat) : Prop where
  pos : 0 < B
  sm : bnd 3900 B
  tk : t ≤ 3300
theorem Ovs.top {B : Int} {t u : Nat} (o : Ovs B t) {q : Rat} (h : ov B u q) (hu : u ≤ 60000) : bnd 60000 q.num := bnd_mono (ov_sm o.pos h).1 hu
/-! ### points -/
def ptL (n : Nat) (x : Nat → Rat) : List Rat := (List.range n).map x
theorem ptL_len (n : Nat) (x : Nat → Rat) : (ptL n x).length = n := by unfold ptL; rw [List.length_map, List.length_range]
theorem ptL_mem {n : Nat} {x : Nat → Rat} {y : Rat} (h : y ∈ ptL n x) : ∃ j, j < n ∧ y = x j := by
  obtain ⟨j, hj, rfl⟩ := List.mem_map.mp h
  exact ⟨j, List.mem_range.mp hj, rfl⟩
theorem tot_append : ∀ (rs : List Int) (ys : List Rat) (r : Int) (y : Rat), rs.length = ys.length → tot (rs ++ [r]) (ys ++ [y]) = tot rs ys + (r : Rat) * y
  | [], [], r, y, _ => by show (r : Rat) * y + 0 = 0 + (r : Rat) * y; grind
  | [], y' :: ys, r, y, e => nomatch e
  | r' :: rs, [], r, y, e => nomatch e
  | r' :: rs, y' :: ys, r, y, e => by
    show (r' : Rat) * y' + tot (rs ++ [r]) (ys ++ [y]) = (r' : Rat) * y' + tot rs ys + (r : Rat) * y
    rw [tot_append rs ys r y (Nat.succ.inj e)]
    grind
theorem tot_qd (f : Nat → Int) (x : Nat → Rat) : ∀ n, tot (tabI n f) (ptL n x) = qd (rq f) x n
  | 0 => rfl
  | n + 1 => by
    have ih := tot_qd f x n
    unfold tabI ptL at *
    rw [List.range_succ, List.map_append, List.map_append, List.map_singleton, List.map_singleton, tot_append _ _ _ _ (by rw [List.length_map, List.length_map]), ih]
    rfl
theorem qd_ov {B : Int} {t k n : Nat} {f : Nat → Int} {x : Nat → Rat} (hf : ∀ j, bnd k (f j)) (hx : ∀ j, j < n → ov B t (x j)) : ov B (k + t + n) (qd (rq f) x n) := by
  rw [← tot_qd]
  have := tot_ov (B := B) (t := t) (k := k) (tabI n f) (ptL n x) (fun r h => by obtain ⟨j, _, rfl⟩ := List.mem_map.mp h; exact hf j) (fun y h => by obtain ⟨j, hj, rfl⟩ := ptL_mem h; exact hx j hj)
  rw [ptL_len] at this
  exact this
/-- the number behind a turn -/
def bhq (n p : Nat) (m : Md) (x : Nat → Rat) (v : Rat) (w : Nat → Rat) : Nat → Rat := fun i =>
  (qd (rq (m.nexts i)) x n + qd (rq (m.push i)) w p + ((m.steer i : Rat) * v + ((m.add i : Rat) * ((1 : Int) : Rat) + 0))) * (((1 : Int) : Rat) / (m.div : Rat))
structure MdS (k : Nat) (m : Md) : Prop where
  nexts : ∀ i j, bnd k (m.nexts i j)
  steer : ∀ i, bnd k (m.steer i)
  push : ∀ i j, bnd k (m.push i j)
  add : ∀ i, bnd k (m.add i)
  div : 1 ≤ m.div
  divb : bnd k m.div
/-! ### can a step be made -/
def pwB (ps : List (Int × Int)) (ws : List Rat) : Prop := ws.length = ps.length ∧ ∀ (k : Nat) (w : Rat) (q : Int × Int), ws[k]? = some w → ps[k]? = some q → (q.1 : Rat) ≤ w ∧ w ≤ (q.2 : Rat)
/-! ### points of rational numbers, as the rooms' defs take them -/
def qps (n : Nat) (x : Nat → Rat) : List (Int × Int) := (ptL n x).map qn
theorem qps_ok {B : Int} {t n : Nat} {x : Nat → Rat} (hB : 0 < B) (kB : bnd 1300 B) (ht : t ≤ 1300) (hx : ∀ j, j < n → ov B t (x j)) : okP 1300 (qps n x) := fun p h => by
  obtain ⟨y, hy, rfl⟩ := List.mem_map.mp h
  obtain ⟨j, hj, rfl⟩ := ptL_mem hy
  exact ⟨qn_pos _, bnd_mono (ov_sm hB (hx j hj)).1 ht, ov_bot hB kB (hx j hj)⟩
/-! ### steps -/
structure Stp where
  at' : Nat
  st : Rat
  pu : List Rat
def roomOk (n : Nat) (m : Md) (x : Nat → Rat) : Prop := ∀ r ∈ m.rows, qd (rq r) x n ≤ (r n : Rat)
/-- a thing whose numbers are not great -/
structure ThS (n : Nat) (ps : List (Int × Int)) (ms : List Md) : Prop where
  n1 : 1 ≤ n
  n3 : n ≤ 3
  p6 : ps.length ≤ 6
  pb : ∀ q ∈ ps, bnd 200 q.1 ∧ bnd 200 q.2
  m40 : ms.length ≤ 40
  md : ∀ m ∈ ms, MdS 200 m
  rows : ∀ m ∈ ms, ∀ r ∈ m.rows, ∀ j, bnd 200 (r j)
/-- numbers over one bottom: all that a step needs -/
structure StO (n : Nat) (x : Nat → Rat) (s : Stp) (B : Int) (t : Nat) : Prop where
  pos : 0 < B
  sm : bnd 1200 B
  tk : t ≤ 1200
  x : ∀ j, j < n → ov B t (x j)
  v : ov B t s.st
  w : ∀ y ∈ s.pu, ov B t y
/-! ### runs -/
def stepN (n p : Nat) (m : Md) (x : Nat → Rat) (s : Stp) : Nat → Rat := bhq n p m x s.st fun k => s.pu.getD k 0
/-- each step can be made -/
def wok (n : Nat) (ps : List (Int × Int)) (ms : List Md) : List Stp → (Nat → Rat) → Prop
  | [], _ => True
  | s :: ss, x => ∃ m, ms[s.at']? = some m ∧ roomOk n m x ∧ pwB ps s.pu ∧ (∃ B t, StO n x s B t) ∧ wok n ps ms ss (stepN n ps.length m x s)
/-- the points of a run -/
def wkL (n p : Nat) (ms : List Md) : List Stp → (Nat → Rat) → List (Nat → Rat)
  | [], x => [x]
  | s :: ss, x => x :: match ms[s.at']? with
    | some m => wkL n p ms ss (stepN n p m x s)
    | none => []
/-! ### the thing steered -/
def Md.put (n : Nat) (m : Md) (p : Pc) : Md where
  rows := m.rows ++ p.1
  nexts := fun i j => p.2.2.2 * m.nexts i j + m.steer i * p.2.1 j
  steer := fun _ => 0
  push := fun i j => p.2.2.2 * m.push i j
  add := fun i => p.2.2.2 * m.add i + p.2.2.1 * m.steer i
  div := p.2.2.2 * m.div
abbrev g_scaled : DF := fun ds Q _ => ∃ (n : Nat) (f : Nat → Int) (b : Int), ds = [.lst (tabD n f), .int b] ∧ (∀ j, bnd 200 (f j)) ∧ bnd 200 b ∧ Q (.lst (tabD n fun j => b * f j))
abbrev N_scaled : List Str := ["numbers", "by", "number"]
def tb_scaled  : DS :=
  (dRet (dFz (dLcN (dSeq (dVar 0)) (gNm 2) dYes (dOp kMul (dVarP 1) (dVarP 2)) [2])))

theorem rd_scaled (ds : List D) (Q E : EQ) (_ : ds.length = 2) (h : g_scaled ds Q E) : tb_scaled (dE Q E) (startD N_scaled ds) := by
  obtain ⟨n, f, b, rfl, hf, hb, q⟩ := h
  unfold tb_scaled dE
  walk_at "go"
  refine compL_fun (fun j : Nat => D.int (f j)) (fun j : Nat => D.int (b * f j)) (List.range n) (fun j hj K1 K0 hK => ?_) ?_
  · have hfj := hf j
    walk_at "go"
    exact hK
  exact q
abbrev g_summed : DF := fun ds Q _ => ∃ (n : Nat) (f g : Nat → Int), ds = [.lst (tabD n f), .lst (tabD n g)] ∧ Q (.lst (tabD n fun j => f j + g j))
abbrev N_summed : List Str := ["one", "other", "number", "more"]
def tb_summed  : DS :=
  (dRet (dFz (dLcN (dZip (dVar 0) (dVar 1)) (gTp 2 (gCs (gNm 2) (gCs (gNm 3) gNl))) dYes (dOp kAdd (dVarP 2) (dVarP 3)) [2, 3])))

theorem rd_summed (ds : List D) (Q E : EQ) (_ : ds.length = 2) (h : g_summed ds Q E) : tb_summed (dE Q E) (startD N_summed ds) := by
  obtain ⟨n, f, g, rfl, q⟩ := h
  have ep : pairs (tabD n f) (tabD n g) = (List.range n).map fun j => D.tup [.int (f j), .int (g j)] := pairs_rng
  unfold tb_summed dE
  walk_at "go"
  rw [ep]
  refine compL_fun (fun j : Nat => D.tup [.int (f j), .int (g j)]) (fun j : Nat => D.int (f j + g j)) (List.range n) (fun j hj K1 K0 hK => ?_) ?_
  · walk_at "go"
    exact hK
  exact q
abbrev g_put_in (CS CM : Addr) : DF := fun ds Q _ => ∃ (n p : Nat) (m : Md) (pc : Pc), ds = [mdI CM n p m, .lst (pc.1.map (rowW (n + 1))), stI CS n pc.2.1 pc.2.2.1 pc.2.2.2] ∧ n ≤ 3 ∧ p ≤ 6 ∧ m.rows.length ≤ 100 ∧ pc.1.length ≤ 100 ∧ MdS 95 m ∧ okLf pc.2 ∧ Q (mdI CM n p (m.put n pc))
abbrev N_put_in : List Str := ["mode", "rows", "straight", "by", "nexts", "i", "add", "push", "row", "number"]
def tb_put_in (K : PySem.W.Frag) (CM : Addr) : DS :=
  (dSq (dSet 3 (dFld K "divisor" (dVar 2))) (dSq (dSet 4 (dLc (dRng1 (dCB kLen (dCons (dFld K "nexts" (dVar 0)) dNil))) (gNm 5) dYes (dCall 2 [] g_summed (dCons (dCall 2 [] g_scaled (dCons (dOp kIx (dFld K "nexts" (dVar 0)) (dVarP 5)) (dCons (dVar 3) dNil))) (dCons (dCall 2 [] g_scaled (dCons (dFld K "numbers" (dVar 2)) (dCons (dOp kIx (dFld K "steer" (dVar 0)) (dVarP 5)) dNil))) dNil))) [5])) (dSq (dSet 6 (dCall 2 [] g_summed (dCons (dCall 2 [] g_scaled (dCons (dFld K "add" (dVar 0)) (dCons (dVar 3) dNil))) (dCons (dCall 2 [] g_scaled (dCons (dFld K "steer" (dVar 0)) (dCons (dFld K "add" (dVar 2)) dNil))) dNil)))) (dSq (dSet 7 (dLc (dSeq (dFld K "push" (dVar 0))) (gNm 8) dYes (dCall 2 [] g_scaled (dCons (dVar 8) (dCons (dVar 3) dNil))) [8])) (dRet (dMake 7 CM [] g_Mode_init (dCons (dOp kAdd (dFld K "rows" (dVar 0)) (dVarP 1)) (dCons (dVar 4) (dCons (dFz (dLcN (dSeq (dFld K "steer" (dVar 0))) (gNm 9) dYes (dC (.int 0)) [9])) (dCons (dVar 7) (dCons (dVar 6) (dCons (dOp kMul (dVarP 3) (dFld K "divisor" (dVar 0))) dNil))))))))))))

theorem rd_put_in {K : PySem.W.Frag} {CM CT CS CP CA CR : Addr} (hT : ThK K CM CT) (hR : RuK K CS CP CA CR) (ds : List D) (Q E : EQ) (_ : ds.length = 3) (h : g_put_in CS CM ds Q E) : tb_put_in K CM (dE Q E) (startD N_put_in ds) := by
  obtain ⟨n, p, m, ⟨rs, f, a, b⟩, rfl, n3, p6, rl, pl, ms, ⟨hf, ha, b1, bb⟩, q⟩ := h
  have k1 := hT.f_Mode_nexts
  have k2 := hT.f_Mode_steer
  have k3 := hT.f_Mode_push
  have k4 := hT.f_Mode_add
  have k5 := hT.f_Mode_divisor
  have k6 := hT.f_Mode_rows
  have k7 := hR.f_Straight_numbers
  have k8 := hR.f_Straight_add
  have k9 := hR.f_Straight_divisor
  unfold tb_put_in dE mdI stI
  have hf : ∀ j, bnd 200 (f j) := fun j => bnd_mono (hf j) (by decide)
  have ha : bnd 200 a := bnd_mono ha (by decide)
  have b31 : bnd 31 b := bb
  have bb : bnd 200 b := bnd_mono b31 (by decide)
  have ln : (lstL n n m.nexts).length = n := lstL_len
  have mb : bnd 95 m.div := ms.divb
  have q : Q (.ins CM (mdF (.lst ((m.rows ++ rs).map (rowW (n + 1)))) (.lst (lstL n n fun i j => b * m.nexts i j + m.steer i * f j)) (.lst (tabD n fun _ => 0)) (.lst (lstL n p fun i j => b * m.push i j)) (.lst (tabD n fun i => b * m.add i + a * m.steer i)) (.int (b * m.div)))) := q
  have pl : rs.length ≤ 100 := pl
  walk_at "go"
  rw [ln, Int.toNat_natCast]
  refine compL_rng n (fun i => .lst (tabD n fun j => b * m.nexts i j + m.steer i * f j)) (fun i hi K1 K0 hK => ?_) ?_
  · have e1 : atI (lstL n n m.nexts) (i : Int) = some (.lst (tabD n (m.nexts i))) := by rw [atI_nn]; exact lstL_get hi
    have e3 : atI (tabD n m.steer) (i : Int) = some (.int (m.steer i)) := by rw [atI_nn, tab_get hi]
    walk_at "go"
    rw [e1]
    walk_at "go"
    refine ⟨n, m.nexts i, b, rfl, fun j => bnd_mono (ms.nexts i j) (by decide), bb, ?_⟩
    walk_at "go"
    rw [e3]
    walk_at "go"
    refine ⟨n, f, m.steer i, rfl, hf, bnd_mono (ms.steer i) (by decide), ?_⟩
    walk_at "go"
    refine ⟨n, _, _, rfl, ?_⟩
    exact hK
  rw [show (List.range n).map (fun i => D.lst (tabD n fun j => b * m.nexts i j + m.steer i * f j)) = lstL n n fun i j => b * m.nexts i j + m.steer i * f j from rfl]
  walk_at "go"
  refine ⟨n, m.add, b, rfl, fun j => bnd_mono (ms.add j) (by decide), bb, ?_⟩
  walk_at "go"
  refine ⟨n, m.steer, a, rfl, fun j => bnd_mono (ms.steer j) (by decide), ha, ?_⟩
  walk_at "go"
  refine ⟨n, _, _, rfl, ?_⟩
  walk_at "go"
  refine compL_fun (fun i => D.lst (tabD p (m.push i))) (fun i => D.lst (tabD p fun j => b * m.push i j)) (List.range n) (fun i hi K1 K0 hK => ?_) ?_
  · walk_at "go"
    refine ⟨p, m.push i, b, rfl, fun j => bnd_mono (ms.push i j) (by decide), bb, ?_⟩
    exact hK
  rw [show (List.range n).map (fun i => D.lst (tabD p fun j => b * m.push i j)) = lstL n p fun i j => b * m.push i j from rfl]
  walk_at "go"
  rw [← List.map_append]
  refine compL_fun (fun i => D.int (m.steer i)) (fun i => D.int 0) (List.range n) (fun i hi K1 K0 hK => ?_) ?_
  · walk_at "go"
    exact hK
  rw [show (List.range n).map (fun i => D.int 0) = tabD n fun _ => 0 from rfl]
  walk_at "go"
  exact ⟨_, _, _, _, _, _, rfl, ko_rows _ _, ko_lstL _ _ _, ko_tab _ _, ko_lstL _ _ _, ko_tab _ _, q⟩
/-- a thing steered: for each mode and each piece one -/
def steerL (n : Nat) (ms : List Md) (pcs : List Pc) : List Md := ms.flatMap fun m => pcs.map (m.put n)
abbrev g_steered (CS CP CA CM CT : Addr) : DF := fun ds Q _ => ∃ (n : Nat) (ps : List (Int × Int)) (ms : List Md) (r : Ru), ds = [thI CT n ps (ms.map (mdI CM n ps.length)), ruD CS CP CA n r] ∧ 1 ≤ n ∧ n ≤ 3 ∧ ps.length ≤ 6 ∧ (∀ q ∈ ps, q.1 ≤ q.2) ∧ ms ≠ [] ∧ (∀ m ∈ ms, MdS 95 m ∧ m.rows.length ≤ 100) ∧ r.ok ∧ r.cnt * ms.length ≤ 40 ∧ r.dep ≤ 7 ∧ Q (thI CT n ps ((steerL n ms (rcut n r)).map (mdI CM n ps.length)))
abbrev N_steered : List Str := ["thing", "rule", "some", "modes", "mode", "rows", "straight"]
def tb_steered (K : PySem.W.Frag) (CS CP CA CT CM C_BadThing C_TooMany : Addr) : DS :=
  (dSq (dSet 2 (dCall 2 [] (g_pieces CS CP CA) (dCons (dVar 1) (dCons (dFld K "many" (dVar 0)) dNil)))) (dSq (dIf (dTest (dOp kGt (dOp kMul (dCB kLen (dCons (dVarP 2) dNil)) (dCB kLen (dCons (dMeth CT "modes" 1 (g_Thing_modes CT) (dVar 0) dNil) dNil))) (dC (.int 40)))) dNever dNext) (dSq (dSet 3 (dLst dNil)) (dSq (dFor (dSeq (dMeth CT "modes" 1 (g_Thing_modes CT) (dVar 0) dNil)) (gNm 4) (dSet 3 (dOp kAdd (dVarP 3) (dFz (dLcN (dSeq (dVar 2)) (gTp 2 (gCs (gNm 5) (gCs (gNm 6) gNl))) dYes (dCall 3 [] (g_put_in CS CM) (dCons (dVar 4) (dCons (dVar 5) (dCons (dVar 6) dNil)))) [5, 6]))))) (dRet (dMake 4 CT [] (g_Thing_init CM C_BadThing C_TooMany) (dCons (dFld K "many" (dVar 0)) (dCons (dMeth CT "pushes" 1 (g_Thing_pushes CT) (dVar 0) dNil) (dCons (dVar 3) dNil)))))))))

theorem cnt_pos : ∀ r : Ru, 1 ≤ r.cnt
  | .st .. => Nat.le_refl 1
  | .sp r _ _ => by have := cnt_pos r; show 1 ≤ 3 * r.cnt; omega
  | .pa _ r o => by have := cnt_pos r; show 1 ≤ r.cnt + o.cnt; omega
abbrev stT (CS CM : Addr) : DS := (dSet 3 (dOp kAdd (dVarP 3) (dFz (dLcN (dSeq (dVar 2)) (gTp 2 (gCs (gNm 5) (gCs (gNm 6) gNl))) dYes (dCall 3 [] (g_put_in CS CM) (dCons (dVar 4) (dCons (dVar 5) (dCons (dVar 6) dNil)))) [5, 6]))))
theorem st_loop {CS CM : Addr} {n p : Nat} {d : DE} {a b : Sl} {pcs : List Pc} (n3 : n ≤ 3) (p6 : p ≤ 6) (hp : ∀ q ∈ pcs, okPc 14 q) : ∀ (l acc : List Md) (s4 s5 s6 : Sl), (∀ m ∈ l, MdS 95 m ∧ m.rows.length ≤ 100) → (acc ++ steerL n l pcs).length ≤ 1000 →
    (∀ s4 s5 s6 : Sl, d.nx [a, b, .sh (.lst (pcs.map (pieD CS n))), .sh (.lst ((acc ++ steerL n l pcs).map (mdI CM n p))), s4, s5, s6]) →
    loopD (gNm 4) (stT CS CM) d (l.map (mdI CM n p)) [a, b, .sh (.lst (pcs.map (pieD CS n))), .sh (.lst (acc.map (mdI CM n p))), s4, s5, s6]
  | [], acc, s4, s5, s6, hm, hl, h => lp_nil (by have h := h s4 s5 s6; rw [show steerL n [] pcs = [] from rfl, List.append_nil] at h; exact h)
  | m :: l, acc, s4, s5, s6, hm, hl, h => by
    have ec : steerL n (m :: l) pcs = pcs.map (m.put n) ++ steerL n l pcs := List.flatMap_cons
    rw [ec, ← List.append_assoc] at h hl
    obtain ⟨m1, m2⟩ := hm m List.mem_cons_self
    have hl2 := hl
    rw [List.length_append, List.length_append, List.length_map] at hl2
    refine lp_cons ?_
    walk_at "go"
    refine compL_fun (pieD CS n) (fun q : Pc => mdI CM n p (m.put n q)) pcs (fun q hq K1 K0 hK => ?_) ?_
    · have o := hp q hq
      unfold pieD
      walk_at "go"
      exact ⟨n, p, m, q, rfl, n3, p6, m2, Nat.le_trans o.1 (by decide), m1, o.2.2, hK⟩
    walk_at "go"
    have ih := st_loop (CS := CS) (CM := CM) (p := p) (d := d) (a := a) (b := b) n3 p6 hp l (acc ++ pcs.map (m.put n)) (.sh (mdI CM n p m)) s5 s6 (fun m h => hm m (List.mem_cons_of_mem _ h)) hl h
    rw [List.map_append, List.map_map] at ih
    exact ih
theorem steerL_len (n : Nat) (pcs : List Pc) : ∀ ms : List Md, (steerL n ms pcs).length = pcs.length * ms.length
  | [] => rfl
  | m :: ms => by
    rw [show steerL n (m :: ms) pcs = pcs.map (m.put n) ++ steerL n ms pcs from List.flatMap_cons, List.length_append, List.length_map, steerL_len n pcs ms, List.length_cons, Nat.mul_succ]
    omega
theorem steerL_mem {n : Nat} {pcs : List Pc} {ms : List Md} {m : Md} (h : m ∈ steerL n ms pcs) : ∃ o ∈ ms, ∃ q ∈ pcs, m = o.put n q := by
  obtain ⟨o, ho, h⟩ := List.mem_flatMap.mp h
  obtain ⟨q, hq, rfl⟩ := List.mem_map.mp h
  exact ⟨o, ho, q, hq, rfl⟩
theorem rd_steered {K : PySem.W.Frag} {CM CT CS CP CA CB CO : Addr} (hT : ThK K CM CT) (ds : List D) (Q E : EQ) (_ : ds.length = 2) (h : g_steered CS CP CA CM CT ds Q E) : tb_steered K CS CP CA CT CM CB CO (dE Q E) (startD N_steered ds) := by
  obtain ⟨n, ps, ms, r, rfl, n1, n3, p6, hps, m0, hm, ro, hc, hd, q⟩ := h
  have k1 := hT.f_Thing_many
  have rk := rcut_ok n r ro
  have rl := rcut_len n r
  have c1 := cnt_pos r
  have l1 : 1 ≤ ms.length := by
    cases ms with
    | nil => exact absurd rfl m0
    | cons m ms => exact Nat.le_add_left 1 _
  have c40 : r.cnt ≤ 40 := Nat.le_trans (Nat.le_mul_of_pos_right _ l1) hc
  have l40 : ms.length ≤ 40 := Nat.le_trans (Nat.le_mul_of_pos_left _ c1) hc
  have hz : ¬ ((r.cnt : Int) * (ms.length : Int) > 40) := by
    have := Int.ofNat_le.mpr hc
    rw [Int.natCast_mul] at this
    omega
  have sl := steerL_len n (rcut n r) ms
  rw [rl] at sl
  unfold tb_steered dE
  walk_at "go"
  refine ⟨n, r, rfl, n1, n3, ro, by omega, hd, ?_⟩
  walk_at "go"
  refine ⟨_, _, _, rfl, ?_⟩
  walk_at "go"
  rw [List.length_map, List.length_map, rl]
  walk_at "go"
  rw [decide_eq_false hz]
  walk_at "go"
  refine ⟨_, _, _, rfl, ?_⟩
  walk_at "go"
  have sl40 : (steerL n ms (rcut n r)).length ≤ 40 := by omega
  refine st_loop (CS := CS) (CM := CM) (n := n) (p := ps.length) n3 p6 (fun q hq => (rk q hq).mono (by omega)) ms [] _ _ _ hm (by rw [List.nil_append]; omega) fun s4 s5 s6 => ?_
  rw [List.nil_append]
  walk_at "go"
  refine ⟨_, _, _, rfl, ?_⟩
  walk_at "go"
  have sne : steerL n ms (rcut n r) ≠ [] := fun z => by
    have : r.cnt * ms.length = 0 := by rw [← sl, z]; rfl
    have := Nat.mul_pos c1 l1
    omega
  obtain ⟨t1, t2, t3, t4, t5⟩ := thing_ok (CM := CM) n1 n3 p6 hps sne sl40 fun m h => by
    obtain ⟨o, ho, pc, hp, rfl⟩ := steerL_mem h
    have h1 := (hm o ho).1.div
    have h2 := (rk pc hp).2.2.2.2.1
    show 1 ≤ pc.2.2.2 * o.div
    have := Int.mul_pos (show 0 < pc.2.2.2 by omega) (show 0 < o.div by omega)
    omega
  refine ⟨_, _, _, rfl, t1, t2, t3, ?_⟩
  rw [if_pos t4, if_neg t5]
  exact q
end Dl

/-! Rules, the mathematics of pieces (from k23). -/
namespace Dl
open PySem PySem.Spec
open PyProof.Rows L2

open Lp
/-! ### the plain law: pieces cover, and tell what the rule tells -/
/-! ### the pieces of stops -/
end Dl

/-! Runs, part 2: what their laws draw. -/
namespace Dl
open PySem PySem.Spec
open PyProof.Rows L2

open Lp

theorem getD_bd {B : Nat} {ns : List Int} (h : ∀ a ∈ ns, bnd B a) (j : Nat) : bnd B (ns.getD j 0) := by
  rw [List.getD_eq_getElem?_getD]
  cases e : ns[j]? with
  | none => exact bnd_zero
  | some x => exact h x (List.mem_of_getElem? e)
/-- a part of a list of numbers -/
theorem cut_seg {k a n : Nat} (F : Nat → Int) (h : a + n ≤ k) : cut (tabD k F) (some (a : Int)) (some ((a + n : Nat) : Int)) = tabD n fun j => F (a + j) := by
  unfold cut
  rw [tab_len, HT.sIx_nat, HT.sIx_nat]
  refine List.ext_getElem? fun i => ?_
  by_cases hi : i < n
  · rw [tab_get hi, List.getElem?_take_of_lt (by omega), List.getElem?_drop, tab_get (by omega), show min a k = a by omega]
  · rw [List.getElem?_eq_none (by rw [List.length_take, List.length_drop, tab_len]; omega), List.getElem?_eq_none (by rw [tab_len]; omega)]
theorem cut_beg {k n : Nat} (F : Nat → Int) (h : n ≤ k) : cut (tabD k F) none (some (n : Int)) = tabD n F := by
  rw [cut_take]
  unfold tabD
  rw [← List.map_take, List.take_range, Nat.min_eq_left h]
/-! ### straight rules -/
abbrev okSt (f : Nat → Int) (a d : Int) : Prop := (∀ j, bnd 33 (f j)) ∧ bnd 33 a ∧ 1 ≤ d ∧ d ≤ 5
/-! ### modes -/
structure MdR (m : Md) : Prop where
  s : MdS 40 m
  d5 : m.div ≤ 5
  rl : m.rows.length ≤ 2
  rb : ∀ r ∈ m.rows, ∀ j, bnd 80 (r j)
theorem pickN (ds : List D) (n x : Int) (hn : n = (ds.length : Int)) (h0 : 0 < n) (P : Int → Prop) (h : ∀ d ∈ ds, ∃ z, d = .int z ∧ P z) : ∃ z, atI ds (x.fmod n) = some (.int z) ∧ P z := by
  obtain ⟨y, hy, e⟩ := pick ds n x hn h0
  obtain ⟨z, rfl, hz⟩ := h y hy
  exact ⟨z, e, hz⟩
/-! ### pushes at their bounds or between -/
theorem ov_divL {B C c e : Int} {t k : Nat} {x : Rat} (hx : ov B t x) (hB : 0 < B) (hc : 0 < c) (he : 0 < e) (h : c * e = C) (ke : bnd k e) : ov (B * C) (t + k) (x / (c : Rat)) := by
  rw [← h, ← Int.mul_assoc]
  exact ov_up (ov_div hx hB hc) (Int.mul_pos hB hc) he ke
/-- a push: between its bounds, over a bottom that is not great -/
def okPu (q : Int × Int) (w : Rat) : Prop := (q.1 : Rat) ≤ w ∧ w ≤ (q.2 : Rat) ∧ ov 27720 100 w
/-! ### a mode whose rows hold -/
/-! ### a piece whose rows hold and that tells a number -/
end Dl

/-! Runs, the mathematics of steered ones. -/
namespace Dl
open PySem PySem.Spec
open PyProof.Rows L2

open Lp
/-! ### rules of small numbers -/
def Ru.sm : Ru → Prop
  | .st f a d => okSt f a d
  | .sp r lo hi => r.sm ∧ bnd 33 lo ∧ bnd 33 hi ∧ lo ≤ hi
  | .pa w r o => (∀ j, bnd 33 (w j)) ∧ r.sm ∧ o.sm
/-! ### a thing steered: its modes -/
theorem MdS.mono {k l : Nat} {m : Md} (h : MdS k m) (z : k ≤ l) : MdS l m := ⟨fun i j => bnd_mono (h.nexts i j) z, fun i => bnd_mono (h.steer i) z, fun i j => bnd_mono (h.push i j) z, fun i => bnd_mono (h.add i) z, h.div, bnd_mono h.divb z⟩
/-! ### walks, step by step -/
structure Wk (n : Nat) (ps : List (Int × Int)) (ms : List Md) (x0 : Nat → Rat) (ss : List Stp) (ys : List (Nat → Rat)) (x : Nat → Rat) : Prop where
  ok : wok n ps ms ss x0
  pts : wkL n ps.length ms ss x0 = ys ++ [x]
theorem Wk.nil {n : Nat} {ps : List (Int × Int)} {ms : List Md} {x0 : Nat → Rat} : Wk n ps ms x0 [] [] x0 := ⟨trivial, rfl⟩
/-! ### how great the numbers of a run are -/
abbrev stC : Int := 1663200
theorem stC_bnd : bnd 21 stC := by unfold bnd stC; decide
theorem part5 {c : Int} (h1 : 1 ≤ c) (h2 : c ≤ 5) : ∃ e : Int, c * e = 60 ∧ 0 < e ∧ bnd 6 e := by
  have : c = 1 ∨ c = 2 ∨ c = 3 ∨ c = 4 ∨ c = 5 := by omega
  rcases this with rfl | rfl | rfl | rfl | rfl
  · exact ⟨60, by decide, by decide, by unfold bnd; decide⟩
  · exact ⟨30, by decide, by decide, by unfold bnd; decide⟩
  · exact ⟨20, by decide, by decide, by unfold bnd; decide⟩
  · exact ⟨15, by decide, by decide, by unfold bnd; decide⟩
  · exact ⟨12, by decide, by decide, by unfold bnd; decide⟩
/-- a point within a run: over which bottom, how great -/
structure PtO (k n : Nat) (x : Nat → Rat) : Prop where
  h : ∃ (B : Int), 0 < B ∧ bnd (6 + 27 * k) B ∧ ∀ j, j < n → ov B (60 + 170 * k) (x j)
theorem PtO.pts {k n : Nat} {x : Nat → Rat} (h : PtO k n x) (k5 : k ≤ 5) : okP 1300 (qps n x) := by
  obtain ⟨B, b0, b1, hx⟩ := h.h
  exact qps_ok b0 (bnd_mono b1 (by omega)) (by omega) hx
/-- numbers that a turn is steered by: told by a straight rule, or over a small bottom -/
def StV (k n : Nat) (x : Nat → Rat) (v : Rat) : Prop := ∀ B : Int, 0 < B → bnd (6 + 27 * k) B → (∀ j, j < n → ov B (60 + 170 * k) (x j)) → ov (B * 60) (60 + 170 * k + 60) v
theorem StV.zero {k n : Nat} {x : Nat → Rat} : StV k n x 0 := fun B b0 b1 hx => ov_zero _
def pusOk (ps : List (Int × Int)) (ws : List Rat) : Prop := ws.length = ps.length ∧ ∀ (k : Nat) (w : Rat) (q : Int × Int), ws[k]? = some w → ps[k]? = some q → okPu q w
theorem pusOk.ov {ps : List (Int × Int)} {ws : List Rat} (h : pusOk ps ws) : ∀ w ∈ ws, ov 27720 100 w := fun w hw => by
  obtain ⟨j, hj, e⟩ := List.mem_iff_getElem.mp hw
  have hp : j < ps.length := by rw [← h.1]; exact hj
  exact (h.2 j w ps[j] (by rw [List.getElem?_eq_getElem hj, e]) (List.getElem?_eq_getElem hp)).2.2
theorem PtO.st {k n : Nat} {x : Nat → Rat} {v : Rat} {ps : List (Int × Int)} {ws : List Rat} {i : Nat} (h : PtO k n x) (k5 : k ≤ 5) (hv : StV k n x v) (hw : pusOk ps ws) : ∃ B : Int, StO n x ⟨i, v, ws⟩ B (60 + 170 * k + 110) ∧ bnd (6 + 27 * k + 21) B := by
  obtain ⟨B, b0, b1, hx⟩ := h.h
  have e1 : B * 60 * 27720 = B * stC := by rw [Int.mul_assoc]; rfl
  have e2 : 27720 * (B * 60) = B * stC := by rw [← e1, Int.mul_comm]
  refine ⟨B * stC, ⟨Int.mul_pos b0 (by decide), bnd_mono (bnd_mul b1 stC_bnd) (by omega), by omega, fun j hj => ?_, ?_, fun y hy => ?_⟩, bnd_mono (bnd_mul b1 stC_bnd) (by omega)⟩
  · exact ov_mono (ov_up (hx j hj) b0 (by decide) stC_bnd) (by omega)
  · have := ov_up (hv B b0 b1 hx) (Int.mul_pos b0 (by decide)) (c := 27720) (by decide) (k := 15) (by unfold bnd; decide)
    rw [e1] at this
    exact ov_mono this (by omega)
  · have := ov_up (hw.ov y hy) (by decide) (c := B * 60) (Int.mul_pos b0 (by decide)) (bnd_mul b1 (show bnd 6 60 by unfold bnd; decide))
    rw [e2] at this
    exact ov_mono this (by omega)
theorem PtO.next {k n p : Nat} {x : Nat → Rat} {v : Rat} {ps : List (Int × Int)} {ws : List Rat} {m : Md} (h : PtO k n x) (k5 : k ≤ 5) (hv : StV k n x v) (hw : pusOk ps ws) (hm : MdR m) (n3 : n ≤ 3) (hp : p = ps.length) (p3 : p ≤ 3) : PtO (k + 1) n (bhq n p m x v fun j => ws.getD j 0) := by
  obtain ⟨B, so, b1⟩ := h.st (i := 0) k5 hv hw
  obtain ⟨e, e1, e2, e3⟩ := part5 hm.s.div hm.d5
  have b0 := so.pos
  have wo : ∀ j, j < p → ov B (60 + 170 * k + 110) (ws.getD j 0) := fun j hj => by
    have hl : j < ws.length := by rw [hw.1, ← hp]; exact hj
    rw [List.getD_eq_getElem?_getD, List.getElem?_eq_getElem hl]
    exact so.w _ (List.getElem_mem hl)
  refine ⟨B * 60, Int.mul_pos b0 (by decide), bnd_mono (bnd_mul b1 (show bnd 6 60 by unfold bnd; decide)) (by omega), fun i hi => ?_⟩
  unfold bhq
  have h1 := ov_mono (qd_ov (hm.s.nexts i) so.x) (show 40 + (60 + 170 * k + 110) + n ≤ 60 + 170 * k + 153 by omega)
  have h2 := ov_mono (qd_ov (hm.s.push i) wo) (show 40 + (60 + 170 * k + 110) + p ≤ 60 + 170 * k + 153 by omega)
  have h3 := ov_mono (ov_int so.v (hm.s.steer i)) (show 40 + (60 + 170 * k + 110) ≤ 60 + 170 * k + 153 by omega)
  have h4 := ov_mono (ov_whole b0 b1 (hm.s.add i)) (show 40 + (6 + 27 * k + 21) ≤ 60 + 170 * k + 153 by omega)
  have h4' : ov B (60 + 170 * k + 153) ((m.add i : Rat) * ((1 : Int) : Rat) + 0) := by
    rw [show (m.add i : Rat) * ((1 : Int) : Rat) + 0 = (m.add i : Rat) by rw [show ((1 : Int) : Rat) = 1 from rfl]; grind]
    exact h4
  have h5 := ov_add (ov_add h1 h2) (ov_add h3 h4')
  have h6 := ov_divL h5 b0 (show 0 < m.div by have := hm.s.div; omega) e2 e1 e3
  have p2 := pos_q (show 0 < m.div by have := hm.s.div; omega)
  have z : ∀ a : Rat, a * (((1 : Int) : Rat) / (m.div : Rat)) = a / (m.div : Rat) := fun a => by
    rw [show ((1 : Int) : Rat) = 1 from rfl]
    generalize (m.div : Rat) = d at *
    grind
  rw [z]
  exact ov_mono h6 (by omega)
end Dl

/-! Runs, part 3: a rule drawn. -/
namespace Dl
open PySem PySem.Spec
open PyProof.Rows L2

open Lp

theorem pickB (a b : D) (x : Int) : (x.fmod 2 = 0 ∧ atI [a, b] (x.fmod 2) = some a ∧ atI [b, a] (x.fmod 2) = some b) ∨ (x.fmod 2 = 1 ∧ atI [a, b] (x.fmod 2) = some b ∧ atI [b, a] (x.fmod 2) = some a) := by
  have h1 := Int.fmod_nonneg_of_pos x (show (0 : Int) < 2 by decide)
  have h2 := Int.fmod_lt_of_pos x (show (0 : Int) < 2 by decide)
  rcases (show x.fmod 2 = 0 ∨ x.fmod 2 = 1 by omega) with e | e <;> rw [e]
  · exact .inl ⟨rfl, rfl, rfl⟩
  · exact .inr ⟨rfl, rfl, rfl⟩
end Dl

/-! Runs, part 4: things steered by rounded numbers, and late. -/
namespace Dl
open PySem PySem.Spec
open PyProof.Rows L2

open Lp

structure StK (K : PySem.W.Frag) (C_Straight : Addr) : Prop where
  k_Straight_Straight : PySem.W.kitOne K (.ref C_Straight) (.ref C_Straight) = some true
/-! ### steered by rounded numbers -/
def Md.mis (n p : Nat) (m : Md) (l : Lf) : Md := { m.put n ([], l) with push := fun i j => if j < p then l.2.2 * m.push i j else (0 - m.steer i) * l.1 (j - p) }
abbrev g_misread (CS CM : Addr) : DF := fun ds Q _ => ∃ (n p : Nat) (m : Md) (l : Lf), ds = [mdI CM n p m, stI CS n l.1 l.2.1 l.2.2] ∧ n ≤ 3 ∧ p ≤ 6 ∧ m.rows.length ≤ 100 ∧ MdS 95 m ∧ okLf l ∧ Q (mdI CM n (p + n) (m.mis n p l))
abbrev N_misread : List Str := ["mode", "straight", "found", "push", "i"]
def tb_misread (K : PySem.W.Frag) (CS CM : Addr) : DS :=
  (dSq (dSet 2 (dCall 3 [] (g_put_in CS CM) (dCons (dVar 0) (dCons (dLst dNil) (dCons (dVar 1) dNil))))) (dSq (dOwn 3 (dLstN dNil)) (dSq (dFor (dRng1 (dCB kLen (dCons (dFld K "push" (dVar 2)) dNil))) (gNm 4) (dApp 3 (dOp kAdd (dOp kIx (dFld K "push" (dVar 2)) (dVarP 4)) (dCall 2 [] g_scaled (dCons (dFld K "numbers" (dVar 1)) (dCons (dOp kSub (dC (.int 0)) (dOp kIx (dFld K "steer" (dVar 0)) (dVarP 4))) dNil)))))) (dFrz 3 (dRet (dMake 7 CM [] g_Mode_init (dCons (dFld K "rows" (dVar 2)) (dCons (dFld K "nexts" (dVar 2)) (dCons (dFld K "steer" (dVar 2)) (dCons (dVar 3) (dCons (dFld K "add" (dVar 2)) (dCons (dFld K "divisor" (dVar 2)) dNil))))))))))))

theorem rd_misread {K : PySem.W.Frag} {CM CT CS CP CA CR : Addr} (hT : ThK K CM CT) (hR : RuK K CS CP CA CR) (ds : List D) (Q E : EQ) (_ : ds.length = 2) (h : g_misread CS CM ds Q E) : tb_misread K CS CM (dE Q E) (startD N_misread ds) := by
  obtain ⟨n, p, m, l, rfl, n3, p6, rl, ms, ol, q⟩ := h
  have k1 := hT.f_Mode_nexts
  have k2 := hT.f_Mode_steer
  have k3 := hT.f_Mode_push
  have k4 := hT.f_Mode_add
  have k5 := hT.f_Mode_divisor
  have k6 := hT.f_Mode_rows
  have k7 := hR.f_Straight_numbers
  unfold tb_misread dE
  walk_at "go"
  refine ⟨n, p, m, ([], l), rfl, n3, p6, rl, Nat.zero_le _, ms, ol, ?_⟩
  walk_at "go"
  unfold mdI stI
  have ln : (lstL n p (m.put n ([], l)).push).length = n := lstL_len
  walk_at "go"
  rw [ln, Int.toNat_natCast, irg0]
  refine loop_ix (fun k ρ => ∃ s4 : Sl, ρ = [.sh (mdI CM n p m), .sh (stI CS n l.1 l.2.1 l.2.2), .sh (mdI CM n p (m.put n ([], l))), .ow (lstL k (p + n) (m.mis n p l).push), s4]) _ ?_ ?_ ⟨_, rfl⟩
  case refine_2 =>
    rintro k x ρ hx ⟨s4, rfl⟩ N hN
    obtain ⟨hk, rfl⟩ := rng_inv hx
    have e1 : atI (lstL n p (m.put n ([], l)).push) (k : Int) = some (.lst (tabD p ((m.put n ([], l)).push k))) := by rw [atI_nn]; exact lstL_get hk
    have e2 : atI (tabD n m.steer) (k : Int) = some (.int (m.steer k)) := by rw [atI_nn, tab_get hk]
    unfold mdI stI
    walk_at "go"
    rw [e1]
    walk_at "go"
    rw [e2]
    walk_at "go"
    refine ⟨n, l.1, 0 - m.steer k, rfl, fun j => bnd_mono (ol.1 j) (by decide), bnd_mono (bnd_subM (bnd_zero (k := 0)) (ms.steer k)) (by decide), ?_⟩
    walk_at "go"
    have ll : (lstL k (p + n) (m.mis n p l).push).length = k := lstL_len
    have e3 : tabD p ((m.put n ([], l)).push k) ++ tabD n (fun j => (0 - m.steer k) * l.1 j) = tabD (p + n) ((m.mis n p l).push k) := by
      rw [tab_app]
      rfl
    rw [e3, lstL_snoc, show (fun i => if i = k then (m.mis n p l).push k else (m.mis n p l).push i) = (m.mis n p l).push from funext fun i => by
      by_cases c : i = k
      · rw [if_pos c, c]
      · rw [if_neg c]]
    refine ⟨few_of (by rw [lstL_len]; omega), ?_⟩
    exact hN _ ⟨_, rfl⟩
  case refine_1 =>
    rintro ρ ⟨s4, rfl⟩
    unfold mdI stI
    walk_at "go"
    rw [List.length_map, List.length_range]
    exact ⟨_, _, _, _, _, _, rfl, ko_rows _ _, ko_lstL _ _ _, ko_tab _ _, ko_lstL _ _ _, ko_tab _ _, q⟩
def misL (n p : Nat) (ms : List Md) (l : Lf) : List Md := ms.map fun m => m.mis n p l
abbrev g_rounded (CS CM CT : Addr) : DF := fun ds Q _ => ∃ (n : Nat) (ps : List (Int × Int)) (ms : List Md) (l : Lf) (z : Int), ds = [thI CT n ps (ms.map (mdI CM n ps.length)), stI CS n l.1 l.2.1 l.2.2, .int z] ∧ 1 ≤ n ∧ n ≤ 3 ∧ ps.length + n ≤ 6 ∧ (∀ q ∈ ps, q.1 ≤ q.2) ∧ ms ≠ [] ∧ ms.length ≤ 40 ∧ (∀ m ∈ ms, MdS 95 m ∧ m.rows.length ≤ 100) ∧ okLf l ∧ 1 ≤ z ∧ Q (thI CT n (ps ++ List.replicate n (0, z)) ((misL n ps.length ms l).map (mdI CM n (ps ++ List.replicate n ((0 : Int), z)).length)))
abbrev N_rounded : List Str := ["thing", "straight", "size", "pushes", "number", "mode"]
def tb_rounded (K : PySem.W.Frag) (CS CP CA CT CM CB CO : Addr) : DS :=
  (dSq (dIf (dOr (dNot (dTest (dCB (kIsi K) (dCons (dVarP 1) (dCons (dC (.cls CS)) dNil))))) (dOr (dNot (dTest (dCall 1 [] g_is_whole (dCons (dVar 2) dNil)))) (dTest (dOp kLt (dVarP 2) (dC (.int 1)))))) dNever dNext) (dSq (dDrop (dCall 2 [] (g_pieces CS CP CA) (dCons (dVar 1) (dCons (dFld K "many" (dVar 0)) dNil)))) (dSq (dIf (dTest (dOp kGt (dOp kAdd (dCB kLen (dCons (dMeth CT "pushes" 1 (g_Thing_pushes CT) (dVar 0) dNil) dNil)) (dFld K "many" (dVar 0))) (dC (.int 6)))) dNever dNext) (dSq (dSet 3 (dOp kAdd (dMeth CT "pushes" 1 (g_Thing_pushes CT) (dVar 0) dNil) (dFz (dLcN (dRng1 (dFld K "many" (dVar 0))) (gNm 4) dYes (dTup (dCons (dC (.int 0)) (dCons (dVar 2) dNil))) [4])))) (dRet (dMake 4 CT [] (g_Thing_init CM CB CO) (dCons (dFld K "many" (dVar 0)) (dCons (dVar 3) (dCons (dFz (dLcN (dSeq (dMeth CT "modes" 1 (g_Thing_modes CT) (dVar 0) dNil)) (gNm 5) dYes (dCall 2 [] (g_misread CS CM) (dCons (dVar 5) (dCons (dVar 1) dNil))) [5])) dNil)))))))))

theorem rd_rounded {K : PySem.W.Frag} {CM CT CS CP CA CR CB CO : Addr} (hT : ThK K CM CT) (hR : RuK K CS CP CA CR) (hS : StK K CS) (ds : List D) (Q E : EQ) (_ : ds.length = 3) (h : g_rounded CS CM CT ds Q E) : tb_rounded K CS CP CA CT CM CB CO (dE Q E) (startD N_rounded ds) := by
  obtain ⟨n, ps, ms, l, z, rfl, n1, n3, p6, hp, m0, m40, hm, ol, z1, q⟩ := h
  have k1 := hT.f_Thing_many
  unfold tb_rounded dE
  walk_at "go"
  refine ⟨hR.i_Straight, ?_⟩
  rw [hS.k_Straight_Straight]
  walk_at "go"
  refine ⟨_, _, rfl, rfl, ?_⟩
  walk_at "go"
  rw [decide_eq_false (show ¬ z < 1 by omega)]
  walk_at "go"
  refine ⟨n, .st l.1 l.2.1 l.2.2, rfl, n1, n3, ol, Nat.le_of_ble_eq_true rfl, Nat.le_of_ble_eq_true rfl, ?_⟩
  walk_at "go"
  refine ⟨_, _, _, rfl, ?_⟩
  walk_at "go"
  rw [List.length_map]
  walk_at "go"
  rw [decide_eq_false (show ¬ (6 : Int) < (ps.length : Int) + (n : Int) by omega)]
  walk_at "go"
  refine ⟨_, _, _, rfl, ?_⟩
  walk_at "go"
  rw [Int.toNat_natCast]
  refine compL_rng n (fun _ => pD (0, z)) (fun i hi K1 K0 hK => ?_) ?_
  · walk_at "go"
    exact hK
  rw [show (List.range n).map (fun _ => pD (0, z)) = (List.replicate n ((0 : Int), z)).map pD by rw [List.map_replicate]; exact List.eq_replicate_iff.mpr ⟨by rw [List.length_map, List.length_range], fun b hb => by obtain ⟨_, _, rfl⟩ := List.mem_map.mp hb; rfl⟩]
  walk_at "go"
  rw [← List.map_append]
  refine ⟨_, _, _, rfl, ?_⟩
  walk_at "go"
  refine compL_fun (mdI CM n ps.length) (fun m => mdI CM n (ps.length + n) (m.mis n ps.length l)) ms (fun m hm' K1 K0 hK => ?_) ?_
  · walk_at "go"
    exact ⟨n, ps.length, m, l, rfl, n3, by omega, (hm m hm').2, (hm m hm').1, ol, hK⟩
  have el : (ps ++ List.replicate n ((0 : Int), z)).length = ps.length + n := by rw [List.length_append, List.length_replicate]
  rw [show ms.map (fun m => mdI CM n (ps.length + n) (m.mis n ps.length l)) = (misL n ps.length ms l).map (mdI CM n (ps ++ List.replicate n ((0 : Int), z)).length) by unfold misL; rw [el, List.map_map]; rfl]
  obtain ⟨t1, t2, t3, t4, t5⟩ := thing_ok (CM := CM) (n := n) (ps := ps ++ List.replicate n ((0 : Int), z)) (ms := misL n ps.length ms l) n1 n3 (by omega) (fun q h => by
    rcases List.mem_append.mp h with h | h
    · exact hp q h
    · rw [List.eq_of_mem_replicate h]
      show (0 : Int) ≤ z
      omega) (fun w => m0 (List.map_eq_nil_iff.mp w)) (by unfold misL; rw [List.length_map]; exact m40) fun m h => by
    obtain ⟨o, ho, rfl⟩ := List.mem_map.mp h
    have h1 := (hm o ho).1.div
    have h2 := ol.2.2.1
    show 1 ≤ l.2.2 * o.div
    have := Int.mul_pos (show 0 < l.2.2 by omega) (show 0 < o.div by omega)
    omega
  walk_at "go"
  refine ⟨_, _, _, rfl, t1, t2, t3, ?_⟩
  rw [if_pos t4, if_neg t5]
  exact q
/-! ### steered late -/
def Md.late (n : Nat) (m : Md) (pc : Pc) : Md where
  rows := (m.rows ++ pc.1).map (widR n 1)
  nexts := fun i => if i = n then (fun j => if j = n then 0 else m.div * pc.2.1 j) else fun j => if j = n then pc.2.2.2 * m.steer i else pc.2.2.2 * m.nexts i j
  steer := fun _ => 0
  push := fun i => if i = n then (fun _ => 0) else fun j => pc.2.2.2 * m.push i j
  add := fun i => if i = n then m.div * pc.2.2.1 else pc.2.2.2 * m.add i
  div := pc.2.2.2 * m.div
abbrev g_wider : DF := fun ds Q _ => ∃ (n : Nat) (r : Nat → Int), ds = [rowW (n + 1) r] ∧ 0 < n ∧ n ≤ 100 ∧ Q (rowW (n + 1 + 1) (widR n 1 r))
abbrev N_wider : List Str := ["row"]
def tb_wider  : DS :=
  (dRet (dOp kAdd (dSl (dVarP 0) dNoPart (dPart (dNeg (dC (.int 1))))) (dTup (dCons (dC (.int 0)) (dCons (dOp kIx (dVarP 0) (dNeg (dC (.int 1)))) dNil)))))

theorem rd_wider (ds : List D) (Q E : EQ) (_ : ds.length = 1) (h : g_wider ds Q E) : tb_wider (dE Q E) (startD N_wider ds) := by
  obtain ⟨n, r, rfl, n0, n1, q⟩ := h
  unfold tb_wider dE
  unfold rowW at *
  walk_at "go"
  refine ⟨nf_tab _ _, ?_⟩
  rw [cut_tab_init]
  walk_at "go"
  rw [tab_last]
  walk_at "go"
  have e : tabD n r ++ [D.int 0, D.int (r n)] = tabD (n + 1 + 1) (widR n 1 r) := by
    rw [show [D.int 0, D.int (r n)] = [D.int 0] ++ [D.int (r n)] from rfl, ← List.append_assoc, tab_snoc, tab_snoc]
    refine tab_congr fun j hj => ?_
    unfold widR
    by_cases h1 : j < n
    · rw [if_neg (by omega), if_neg (by omega), if_pos h1]
    · by_cases h2 : j = n
      · rw [if_neg (by omega), if_pos h2, if_neg h1, if_pos (by omega)]
      · rw [if_pos (by omega), if_neg h1, if_neg (by omega)]
  rw [e]
  exact ⟨tab_ne n0, few_of (by rw [tab_len]; omega), q⟩
abbrev g_put_late (CS CM : Addr) : DF := fun ds Q _ => ∃ (n p : Nat) (m : Md) (pc : Pc), ds = [mdI CM n p m, .lst (pc.1.map (rowW (n + 1))), stI CS n pc.2.1 pc.2.2.1 pc.2.2.2] ∧ 1 ≤ n ∧ n ≤ 3 ∧ p ≤ 6 ∧ m.rows.length ≤ 100 ∧ pc.1.length ≤ 100 ∧ MdS 95 m ∧ okLf pc.2 ∧ Q (mdI CM (n + 1) p (m.late n pc))
abbrev N_put_late : List Str := ["mode", "rows", "straight", "by", "nexts", "i", "add", "push", "row", "number"]
def tb_put_late (K : PySem.W.Frag) (CM : Addr) : DS :=
  (dSq (dSet 3 (dFld K "divisor" (dVar 2))) (dSq (dOwn 4 (dLcN (dRng1 (dCB kLen (dCons (dFld K "nexts" (dVar 0)) dNil))) (gNm 5) dYes (dOp kAdd (dCall 2 [] g_scaled (dCons (dOp kIx (dFld K "nexts" (dVar 0)) (dVarP 5)) (dCons (dVar 3) dNil))) (dLst (dCons (dOp kMul (dVarP 3) (dOp kIx (dFld K "steer" (dVar 0)) (dVarP 5))) dNil))) [5])) (dSq (dApp 4 (dOp kAdd (dCall 2 [] g_scaled (dCons (dFld K "numbers" (dVar 2)) (dCons (dFld K "divisor" (dVar 0)) dNil))) (dLst (dCons (dC (.int 0)) dNil)))) (dSq (dSet 6 (dOp kAdd (dCall 2 [] g_scaled (dCons (dFld K "add" (dVar 0)) (dCons (dVar 3) dNil))) (dLst (dCons (dOp kMul (dFld K "divisor" (dVar 0)) (dFld K "add" (dVar 2))) dNil)))) (dSq (dSet 7 (dOp kAdd (dFz (dLcN (dSeq (dFld K "push" (dVar 0))) (gNm 8) dYes (dCall 2 [] g_scaled (dCons (dVar 8) (dCons (dVar 3) dNil))) [8])) (dLst (dCons (dFz (dLcN (dSeq (dOp kIx (dFld K "push" (dVar 0)) (dC (.int 0)))) (gNm 9) dYes (dC (.int 0)) [9])) dNil)))) (dFrz 4 (dRet (dMake 7 CM [] g_Mode_init (dCons (dFz (dLcN (dSeq (dOp kAdd (dFld K "rows" (dVar 0)) (dVarP 1))) (gNm 8) dYes (dCall 1 [] g_wider (dCons (dVar 8) dNil)) [8])) (dCons (dVar 4) (dCons (dOp kMul (dLst (dCons (dC (.int 0)) dNil)) (dCB kLen (dCons (dVarP 4) dNil))) (dCons (dVar 7) (dCons (dVar 6) (dCons (dOp kMul (dVarP 3) (dFld K "divisor" (dVar 0))) dNil))))))))))))))

theorem rd_put_late {K : PySem.W.Frag} {CM CT CS CP CA CR : Addr} (hT : ThK K CM CT) (hR : RuK K CS CP CA CR) (ds : List D) (Q E : EQ) (_ : ds.length = 3) (h : g_put_late CS CM ds Q E) : tb_put_late K CM (dE Q E) (startD N_put_late ds) := by
  obtain ⟨n, p, m, ⟨rs, f, a, b⟩, rfl, n1, n3, p6, rl, pl, ms, ⟨hf, ha, b1, bb⟩, q⟩ := h
  have k1 := hT.f_Mode_nexts
  have k2 := hT.f_Mode_steer
  have k3 := hT.f_Mode_push
  have k4 := hT.f_Mode_add
  have k5 := hT.f_Mode_divisor
  have k6 := hT.f_Mode_rows
  have k7 := hR.f_Straight_numbers
  have k8 := hR.f_Straight_add
  have k9 := hR.f_Straight_divisor
  unfold tb_put_late dE mdI stI
  have hf : ∀ j, bnd 200 (f j) := fun j => bnd_mono (hf j) (by decide)
  have ha : bnd 200 a := bnd_mono ha (by decide)
  have b31 : bnd 31 b := bb
  have bb : bnd 200 b := bnd_mono b31 (by decide)
  have ln : (lstL n n m.nexts).length = n := lstL_len
  have mb : bnd 95 m.div := ms.divb
  have pl : rs.length ≤ 100 := pl
  have q : Q (.ins CM (mdF (.lst (((m.rows ++ rs).map (widR n 1)).map (rowW (n + 1 + 1)))) (.lst (lstL (n + 1) (n + 1) fun i => if i = n then (fun j => if j = n then 0 else m.div * f j) else fun j => if j = n then b * m.steer i else b * m.nexts i j)) (.lst (tabD (n + 1) fun _ => 0)) (.lst (lstL (n + 1) p fun i => if i = n then (fun _ => 0) else fun j => b * m.push i j)) (.lst (tabD (n + 1) fun i => if i = n then m.div * a else b * m.add i)) (.int (b * m.div)))) := q
  walk_at "go"
  rw [ln, Int.toNat_natCast]
  refine compL_rng n (fun i => .lst (tabD (n + 1) fun j => if j = n then b * m.steer i else b * m.nexts i j)) (fun i hi K1 K0 hK => ?_) ?_
  · have e1 : atI (lstL n n m.nexts) (i : Int) = some (.lst (tabD n (m.nexts i))) := by rw [atI_nn]; exact lstL_get hi
    have e3 : atI (tabD n m.steer) (i : Int) = some (.int (m.steer i)) := by rw [atI_nn, tab_get hi]
    have hs := ms.steer i
    have mo : mulOk b (m.steer i) := mul_of b31 hs (by decide)
    walk_at "go"
    rw [e1]
    walk_at "go"
    refine ⟨n, m.nexts i, b, rfl, fun j => bnd_mono (ms.nexts i j) (by decide), bb, ?_⟩
    walk_at "go"
    rw [e3]
    walk_at "go"
    rw [tab_snoc]
    exact hK
  rw [show (List.range n).map (fun i => D.lst (tabD (n + 1) fun j => if j = n then b * m.steer i else b * m.nexts i j)) = lstL n (n + 1) fun i j => if j = n then b * m.steer i else b * m.nexts i j from rfl]
  walk_at "go"
  have mo2 : mulOk m.div a := mul_of mb ha (by decide)
  have mo3 : mulOk b m.div := mul_of b31 mb (by decide)
  refine ⟨n, f, m.div, rfl, hf, bnd_mono mb (by decide), ?_⟩
  walk_at "go"
  rw [tab_snoc, lstL_snoc]
  refine ⟨few_of (by rw [lstL_len]; omega), ?_⟩
  walk_at "go"
  refine ⟨n, m.add, b, rfl, fun j => bnd_mono (ms.add j) (by decide), bb, ?_⟩
  walk_at "go"
  rw [tab_snoc]
  generalize hN : (fun i => if i = n then (fun j => if j = n then 0 else m.div * f j) else fun j => if j = n then b * m.steer i else b * m.nexts i j) = NN at *
  generalize hA : (fun j => if j = n then m.div * a else b * m.add j) = AA at *
  refine compL_fun (fun i => D.lst (tabD p (m.push i))) (fun i => D.lst (tabD p fun j => b * m.push i j)) (List.range n) (fun i hi K1 K0 hK => ?_) ?_
  · walk_at "go"
    refine ⟨p, m.push i, b, rfl, fun j => bnd_mono (ms.push i j) (by decide), bb, ?_⟩
    exact hK
  rw [show (List.range n).map (fun i => D.lst (tabD p fun j => b * m.push i j)) = lstL n p fun i j => b * m.push i j from rfl]
  have e0 : atI (lstL n p m.push) 0 = some (.lst (tabD p (m.push 0))) := by rw [show (0 : Int) = ((0 : Nat) : Int) from rfl, atI_nn]; exact lstL_get (by omega)
  walk_at "go"
  rw [e0]
  walk_at "go"
  refine compL_fun (fun j => D.int (m.push 0 j)) (fun j => D.int 0) (List.range p) (fun i hi K1 K0 hK => ?_) ?_
  · walk_at "go"
    exact hK
  rw [show (List.range p).map (fun j => D.int 0) = tabD p fun _ => 0 from rfl]
  walk_at "go"
  rw [lstL_snoc]
  generalize hP : (fun i => if i = n then (fun _ => 0) else fun j => b * m.push i j) = PP at *
  refine ⟨few_of (by rw [lstL_len]; omega), ?_⟩
  walk_at "go"
  rw [← List.map_append]
  refine compL_fun (rowW (n + 1)) (fun r => rowW (n + 1 + 1) (widR n 1 r)) (m.rows ++ rs) (fun r hr K1 K0 hK => ?_) ?_
  · walk_at "go"
    exact ⟨n, r, rfl, n1, by omega, hK⟩
  rw [show (m.rows ++ rs).map (fun r => rowW (n + 1 + 1) (widR n 1 r)) = ((m.rows ++ rs).map (widR n 1)).map (rowW (n + 1 + 1)) by rw [List.map_map]; rfl]
  have ll : (lstL (n + 1) (n + 1) NN).length = n + 1 := lstL_len
  walk_at "go"
  rw [ll, rep0]
  refine ⟨few_of (by rw [tab_len]; omega), ?_⟩
  walk_at "go"
  exact ⟨_, _, _, _, _, _, rfl, ko_rows _ _, ko_lstL _ _ _, ko_tab _ _, ko_lstL _ _ _, ko_tab _ _, q⟩
/-- for each mode and each piece one -/
def crossL (F : Md → Pc → Md) (ms : List Md) (pcs : List Pc) : List Md := ms.flatMap fun m => pcs.map (F m)
theorem crossL_len (F : Md → Pc → Md) (pcs : List Pc) : ∀ ms : List Md, (crossL F ms pcs).length = pcs.length * ms.length
  | [] => rfl
  | m :: ms => by
    rw [show crossL F (m :: ms) pcs = pcs.map (F m) ++ crossL F ms pcs from List.flatMap_cons, List.length_append, List.length_map, crossL_len F pcs ms, List.length_cons, Nat.mul_succ]
    omega
theorem crossL_mem {F : Md → Pc → Md} {pcs : List Pc} {ms : List Md} {m : Md} (h : m ∈ crossL F ms pcs) : ∃ o ∈ ms, ∃ q ∈ pcs, m = F o q := by
  obtain ⟨o, ho, h⟩ := List.mem_flatMap.mp h
  obtain ⟨q, hq, rfl⟩ := List.mem_map.mp h
  exact ⟨o, ho, q, hq, rfl⟩
abbrev lateL (n : Nat) (ms : List Md) (pcs : List Pc) : List Md := crossL (Md.late n) ms pcs
abbrev g_late (CS CP CA CM CT : Addr) : DF := fun ds Q _ => ∃ (n : Nat) (ps : List (Int × Int)) (ms : List Md) (r : Ru), ds = [thI CT n ps (ms.map (mdI CM n ps.length)), ruD CS CP CA n r] ∧ 1 ≤ n ∧ n ≤ 2 ∧ ps.length ≤ 6 ∧ (∀ q ∈ ps, q.1 ≤ q.2) ∧ ms ≠ [] ∧ (∀ m ∈ ms, MdS 95 m ∧ m.rows.length ≤ 100) ∧ r.ok ∧ r.cnt * ms.length ≤ 40 ∧ r.dep ≤ 7 ∧ Q (thI CT (n + 1) ps ((lateL n ms (rcut n r)).map (mdI CM (n + 1) ps.length)))
abbrev N_late : List Str := ["thing", "rule", "some", "modes", "mode", "rows", "straight"]
def tb_late (K : PySem.W.Frag) (CS CP CA CT CM CB CO : Addr) : DS :=
  (dSq (dSet 2 (dCall 2 [] (g_pieces CS CP CA) (dCons (dVar 1) (dCons (dFld K "many" (dVar 0)) dNil)))) (dSq (dIf (dOr (dTest (dOp kGt (dFld K "many" (dVar 0)) (dC (.int 2)))) (dTest (dOp kGt (dOp kMul (dCB kLen (dCons (dVarP 2) dNil)) (dCB kLen (dCons (dMeth CT "modes" 1 (g_Thing_modes CT) (dVar 0) dNil) dNil))) (dC (.int 40))))) dNever dNext) (dSq (dSet 3 (dLst dNil)) (dSq (dFor (dSeq (dMeth CT "modes" 1 (g_Thing_modes CT) (dVar 0) dNil)) (gNm 4) (dSet 3 (dOp kAdd (dVarP 3) (dFz (dLcN (dSeq (dVar 2)) (gTp 2 (gCs (gNm 5) (gCs (gNm 6) gNl))) dYes (dCall 3 [] (g_put_late CS CM) (dCons (dVar 4) (dCons (dVar 5) (dCons (dVar 6) dNil)))) [5, 6]))))) (dRet (dMake 4 CT [] (g_Thing_init CM CB CO) (dCons (dOp kAdd (dFld K "many" (dVar 0)) (dC (.int 1))) (dCons (dMeth CT "pushes" 1 (g_Thing_pushes CT) (dVar 0) dNil) (dCons (dVar 3) dNil)))))))))

abbrev ltT (CS CM : Addr) : DS := (dSet 3 (dOp kAdd (dVarP 3) (dFz (dLcN (dSeq (dVar 2)) (gTp 2 (gCs (gNm 5) (gCs (gNm 6) gNl))) dYes (dCall 3 [] (g_put_late CS CM) (dCons (dVar 4) (dCons (dVar 5) (dCons (dVar 6) dNil)))) [5, 6]))))
theorem lt_loop {CS CM : Addr} {n p : Nat} {d : DE} {a b : Sl} {pcs : List Pc} (n1 : 1 ≤ n) (n3 : n ≤ 3) (p6 : p ≤ 6) (hp : ∀ q ∈ pcs, okPc 14 q) : ∀ (l acc : List Md) (s4 s5 s6 : Sl), (∀ m ∈ l, MdS 95 m ∧ m.rows.length ≤ 100) → (acc ++ lateL n l pcs).length ≤ 1000 →
    (∀ s4 s5 s6 : Sl, d.nx [a, b, .sh (.lst (pcs.map (pieD CS n))), .sh (.lst ((acc ++ lateL n l pcs).map (mdI CM (n + 1) p))), s4, s5, s6]) →
    loopD (gNm 4) (ltT CS CM) d (l.map (mdI CM n p)) [a, b, .sh (.lst (pcs.map (pieD CS n))), .sh (.lst (acc.map (mdI CM (n + 1) p))), s4, s5, s6]
  | [], acc, s4, s5, s6, hm, hl, h => lp_nil (by have h := h s4 s5 s6; rw [show lateL n [] pcs = [] from rfl, List.append_nil] at h; exact h)
  | m :: l, acc, s4, s5, s6, hm, hl, h => by
    have ec : lateL n (m :: l) pcs = pcs.map (m.late n) ++ lateL n l pcs := List.flatMap_cons
    rw [ec, ← List.append_assoc] at h hl
    obtain ⟨m1, m2⟩ := hm m List.mem_cons_self
    have hl2 := hl
    rw [List.length_append, List.length_append, List.length_map] at hl2
    refine lp_cons ?_
    walk_at "go"
    refine compL_fun (pieD CS n) (fun q : Pc => mdI CM (n + 1) p (m.late n q)) pcs (fun q hq K1 K0 hK => ?_) ?_
    · have o := hp q hq
      unfold pieD
      walk_at "go"
      exact ⟨n, p, m, q, rfl, n1, n3, p6, m2, Nat.le_trans o.1 (by decide), m1, o.2.2, hK⟩
    walk_at "go"
    have ih := lt_loop (CS := CS) (CM := CM) (p := p) (d := d) (a := a) (b := b) n1 n3 p6 hp l (acc ++ pcs.map (m.late n)) (.sh (mdI CM n p m)) s5 s6 (fun m h => hm m (List.mem_cons_of_mem _ h)) hl h
    rw [List.map_append, List.map_map] at ih
    exact ih
theorem rd_late {K : PySem.W.Frag} {CM CT CS CP CA CB CO : Addr} (hT : ThK K CM CT) (ds : List D) (Q E : EQ) (_ : ds.length = 2) (h : g_late CS CP CA CM CT ds Q E) : tb_late K CS CP CA CT CM CB CO (dE Q E) (startD N_late ds) := by
  obtain ⟨n, ps, ms, r, rfl, n1, n2, p6, hps, m0, hm, ro, hc, hd, q⟩ := h
  have k1 := hT.f_Thing_many
  have n3 : n ≤ 3 := by omega
  have rk := rcut_ok n r ro
  have rl := rcut_len n r
  have c1 := cnt_pos r
  have l1 : 1 ≤ ms.length := List.length_pos_iff.mpr m0
  have c40 : r.cnt ≤ 40 := Nat.le_trans (Nat.le_mul_of_pos_right _ l1) hc
  have l40 : ms.length ≤ 40 := Nat.le_trans (Nat.le_mul_of_pos_left _ c1) hc
  have hz : ¬ ((40 : Int) < (r.cnt : Int) * (ms.length : Int)) := by
    have := Int.ofNat_le.mpr hc
    rw [Int.natCast_mul] at this
    omega
  have sl := crossL_len (Md.late n) (rcut n r) ms
  rw [rl] at sl
  unfold tb_late dE
  walk_at "go"
  refine ⟨n, r, rfl, n1, n3, ro, by omega, hd, ?_⟩
  walk_at "go"
  rw [decide_eq_false (show ¬ (2 : Int) < (n : Int) by omega)]
  walk_at "go"
  refine ⟨_, _, _, rfl, ?_⟩
  walk_at "go"
  rw [List.length_map, List.length_map, rl]
  walk_at "go"
  rw [decide_eq_false hz]
  walk_at "go"
  refine ⟨_, _, _, rfl, ?_⟩
  walk_at "go"
  have sl40 : (lateL n ms (rcut n r)).length ≤ 40 := by show (crossL (Md.late n) ms (rcut n r)).length ≤ 40; omega
  refine lt_loop (CS := CS) (CM := CM) (n := n) (p := ps.length) n1 n3 p6 (fun q hq => (rk q hq).mono (by omega)) ms [] _ _ _ hm (by rw [List.nil_append]; omega) fun s4 s5 s6 => ?_
  rw [List.nil_append]
  walk_at "go"
  refine ⟨_, _, _, rfl, ?_⟩
  walk_at "go"
  have sne : lateL n ms (rcut n r) ≠ [] := fun z => by
    have : r.cnt * ms.length = 0 := by rw [← sl]; exact congrArg List.length z
    have := Nat.mul_pos c1 l1
    omega
  obtain ⟨t1, t2, t3, t4, t5⟩ := thing_ok (CM := CM) (n := n + 1) (by omega) (by omega) p6 hps sne sl40 fun m h => by
    obtain ⟨o, ho, pc, hp, rfl⟩ := crossL_mem h
    have h1 := (hm o ho).1.div
    have h2 := (rk pc hp).2.2.2.2.1
    show 1 ≤ pc.2.2.2 * o.div
    have := Int.mul_pos (show 0 < pc.2.2.2 by omega) (show 0 < o.div by omega)
    omega
  refine ⟨_, _, _, rfl, t1, t2, t3, ?_⟩
  rw [if_pos (show thB CM (D.int ((n : Int) + 1)) _ _ = true from t4), if_neg t5]
  exact q
end Dl

namespace K32
open PySem PySem.Spec
open PyProof.Rows L2 Dl
def topS (i : Nat) : Stmt := PySem.Challenge.pw_steadyhand_k32_modes_of_steered_things.main.body.getD i (.Pass ⟨0, 0, 0, 0⟩)
structure TtK (K : PySem.W.Frag) (C_Thing : Addr) : Prop where
  k_Thing_Thing : PySem.W.kitOne K (.ref C_Thing) (.ref C_Thing) = some true
/-- a mode told part by part -/
abbrev parD (n p : Nat) (m : Md) : List D := [.lst (m.rows.map (rowW (n + 1))), .lst (lstL n n m.nexts), .lst (tabD n m.steer), .lst (lstL n p m.push), .lst (tabD n m.add), .int m.div]
def parT (n p : Nat) (m : Md) : D := .lst (parD n p m)
/-- modes drawn -/
structure MdT (m : Md) : Prop where
  s : MdS 67 m
  d9 : m.div ≤ 9
  rl : m.rows.length ≤ 2
abbrev strD (n : Nat) (l : Lf) : D := .tup [.lst (tabD n l.1), .int l.2.1, .int l.2.2]
abbrev g__law_number : DF := fun ds Q _ => ∃ (x : Int), ds = [.int x] ∧ 0 ≤ x ∧ x < 2147483647 ∧ ∀ y : Int, bnd 67 y → Q (.int y)
abbrev g__law_parts : DF := fun ds Q _ => ∃ (c : Int) (n p : Nat), ds = [.int c, .int n, .int p] ∧ 1 ≤ n ∧ n ≤ 3 ∧ p ≤ 3 ∧ ∀ m : Md, MdT m → Q (parT n p m)
abbrev g__law_straight (CS : Addr) : DF := fun ds Q _ => ∃ (c : Int) (n : Nat), ds = [.int c, .int n] ∧ 1 ≤ n ∧ n ≤ 3 ∧ ∀ (f : Nat → Int) (a d : Int), okLf (f, a, d) → Q (stI CS n f a d)
abbrev g__law_rule (CS CP CA : Addr) : DF := fun ds Q _ => ∃ (cs : List Int) (n : Nat), ds = [.lst (cs.map .int), .int n] ∧ cs.length ≤ 4 ∧ 1 ≤ n ∧ n ≤ 3 ∧ ∀ r : Ru, r.ok → r.cnt ≤ 10 → r.dep ≤ 3 → Q (ruD CS CP CA n r)
abbrev g__law_put : DF1 := fun ds Q _ => ∃ (n p : Nat) (m : Md) (pc : Pc), ds = [parT n p m, .lst (pc.1.map (rowW (n + 1))), strD n pc.2] ∧ n ≤ 3 ∧ p ≤ 6 ∧ m.rows.length ≤ 100 ∧ pc.1.length ≤ 100 ∧ MdS 95 m ∧ okLf pc.2 ∧ Q (parD n p (m.put n pc))
abbrev g__law_put_late : DF := fun ds Q _ => ∃ (n p : Nat) (m : Md) (pc : Pc), ds = [parT n p m, .lst (pc.1.map (rowW (n + 1))), strD n pc.2] ∧ 1 ≤ n ∧ n ≤ 3 ∧ p ≤ 6 ∧ m.rows.length ≤ 100 ∧ pc.1.length ≤ 100 ∧ MdS 95 m ∧ okLf pc.2 ∧ Q (parT (n + 1) p (m.late n pc))
abbrev g__law_told (CM CT : Addr) : DF := fun ds Q _ => ∃ (n : Nat) (ps : List (Int × Int)) (ms : List Md), ds = [thI CT n ps (ms.map (mdI CM n ps.length))] ∧ ms.length ≤ 1000 ∧ Q (.lst (ms.map (parT n ps.length)))
abbrev g_Thing_is_closed (CM CT : Addr) : DF := fun ds Q _ => ∃ (n : Nat) (ps : List (Int × Int)) (ms : List Md), ds = [thI CT n ps (ms.map (mdI CM n ps.length))] ∧ 1 ≤ n ∧ n ≤ 10 ∧ (∀ m ∈ ms, ∀ j, m.steer j = 0) ∧ Q (.bl true)
abbrev g__law_right (CM CT : Addr) : DF := fun ds Q _ => ∃ (n : Nat) (ps : List (Int × Int)) (ms : List Md), ds = [thI CT n ps (ms.map (mdI CM n ps.length)), .int n, .lst (ps.map pD), .lst (ms.map (parT n ps.length))] ∧ 1 ≤ n ∧ n ≤ 10 ∧ ms.length ≤ 1000 ∧ (∀ m ∈ ms, ∀ j, m.steer j = 0) ∧ Q (.bl true)
/-- what the top leaves: the built-in names are no names of the module, the defs and classes stand -/
structure Txt (K : PySem.W.Frag) (mg : Str → Option Value) (a_is_whole a_own a_own_list a_are_wholes a_is_row a_is_room a_is_table a_Mode_init a_is_mode a_is_push a_Thing_init a_Thing_pushes a_Thing_modes a_Thing_is_closed a_Rule_counted a_Straight_init a_Straight_fits a_Straight_cut a_Stopped_init a_Stopped_fits a_Stopped_counted a_Stopped_cut a_stops_of a_Parted_init a_Parted_fits a_Parted_counted a_Parted_cut a_pieces a_scaled a_summed a_put_in a_steered a_misread a_rounded a_wider a_put_late a_late a__law_cell_at a__law_stream a__law_number a__law_parts a__law_straight a__law_rule a__law_scaled a__law_put a__law_put_late a__law_told a__law_right a_law C_BadThing C_TooMany C_Mode C_Thing C_Rule C_Straight C_Stopped C_Parted : Addr) : Prop where
  b_all : mg "all" = none
  b_bool : mg "bool" = none
  b_int : mg "int" = none
  b_isinstance : mg "isinstance" = none
  b_len : mg "len" = none
  b_list : mg "list" = none
  b_range : mg "range" = none
  b_tuple : mg "tuple" = none
  b_zip : mg "zip" = none
  f_is_whole : mg "is_whole" = some (.ref a_is_whole)
  f_own : mg "own" = some (.ref a_own)
  f_own_list : mg "own_list" = some (.ref a_own_list)
  f_are_wholes : mg "are_wholes" = some (.ref a_are_wholes)
  f_is_row : mg "is_row" = some (.ref a_is_row)
  f_is_room : mg "is_room" = some (.ref a_is_room)
  f_is_table : mg "is_table" = some (.ref a_is_table)
  f_is_mode : mg "is_mode" = some (.ref a_is_mode)
  f_is_push : mg "is_push" = some (.ref a_is_push)
  f_stops_of : mg "stops_of" = some (.ref a_stops_of)
  f_pieces : mg "pieces" = some (.ref a_pieces)
  f_scaled : mg "scaled" = some (.ref a_scaled)
  f_summed : mg "summed" = some (.ref a_summed)
  f_put_in : mg "put_in" = some (.ref a_put_in)
  f_steered : mg "steered" = some (.ref a_steered)
  f_misread : mg "misread" = some (.ref a_misread)
  f_rounded : mg "rounded" = some (.ref a_rounded)
  f_wider : mg "wider" = some (.ref a_wider)
  f_put_late : mg "put_late" = some (.ref a_put_late)
  f_late : mg "late" = some (.ref a_late)
  f__law_cell_at : mg "_law_cell_at" = some (.ref a__law_cell_at)
  f__law_stream : mg "_law_stream" = some (.ref a__law_stream)
  f__law_number : mg "_law_number" = some (.ref a__law_number)
  f__law_parts : mg "_law_parts" = some (.ref a__law_parts)
  f__law_straight : mg "_law_straight" = some (.ref a__law_straight)
  f__law_rule : mg "_law_rule" = some (.ref a__law_rule)
  f__law_scaled : mg "_law_scaled" = some (.ref a__law_scaled)
  f__law_put : mg "_law_put" = some (.ref a__law_put)
  f__law_put_late : mg "_law_put_late" = some (.ref a__law_put_late)
  f__law_told : mg "_law_told" = some (.ref a__law_told)
  f__law_right : mg "_law_right" = some (.ref a__law_right)
  f_law : mg "law" = some (.ref a_law)
  g_MOST_MODES : ∃ t, mg "MOST_MODES" = some (.int 40 t)
  g_MOST_NUMBERS : ∃ t, mg "MOST_NUMBERS" = some (.int 3 t)
  g_MOST_PIECES : ∃ t, mg "MOST_PIECES" = some (.int 60 t)
  g_MOST_PUSHES : ∃ t, mg "MOST_PUSHES" = some (.int 6 t)
  c_BadThing : mg "BadThing" = some (.ref C_BadThing)
  c_Mode : mg "Mode" = some (.ref C_Mode)
  c_Parted : mg "Parted" = some (.ref C_Parted)
  c_Rule : mg "Rule" = some (.ref C_Rule)
  c_Stopped : mg "Stopped" = some (.ref C_Stopped)
  c_Straight : mg "Straight" = some (.ref C_Straight)
  c_Thing : mg "Thing" = some (.ref C_Thing)
  c_TooMany : mg "TooMany" = some (.ref C_TooMany)
  l_Parted : Cls K C_Parted
  l_Stopped : Cls K C_Stopped
  l_Straight : Cls K C_Straight
  l_Thing : Cls K C_Thing
  m_Parted_counted : Meth K C_Parted "counted" a_Parted_counted
  m_Parted_cut : Meth K C_Parted "cut" a_Parted_cut
  m_Parted_fits : Meth K C_Parted "fits" a_Parted_fits
  m_Stopped_counted : Meth K C_Stopped "counted" a_Stopped_counted
  m_Stopped_cut : Meth K C_Stopped "cut" a_Stopped_cut
  m_Stopped_fits : Meth K C_Stopped "fits" a_Stopped_fits
  m_Straight_counted : Meth K C_Straight "counted" a_Rule_counted
  m_Straight_cut : Meth K C_Straight "cut" a_Straight_cut
  m_Straight_fits : Meth K C_Straight "fits" a_Straight_fits
  m_Thing_is_closed : Meth K C_Thing "is_closed" a_Thing_is_closed
  m_Thing_modes : Meth K C_Thing "modes" a_Thing_modes
  m_Thing_pushes : Meth K C_Thing "pushes" a_Thing_pushes
  x_BadThing : ExCls K mg "BadThing" C_BadThing
  x_TooMany : ExCls K mg "TooMany" C_TooMany
  kf_ThK : ThK K C_Mode C_Thing
  kf_RuK : RuK K C_Straight C_Stopped C_Parted C_Rule
  kf_StK : StK K C_Straight
  kf_TtK : TtK K C_Thing

section
variable {P : Program} {w : World} {K : PySem.W.Frag} {mg : Str → Option Value} {base : Heap} {a_is_whole a_own a_own_list a_are_wholes a_is_row a_is_room a_is_table a_Mode_init a_is_mode a_is_push a_Thing_init a_Thing_pushes a_Thing_modes a_Thing_is_closed a_Rule_counted a_Straight_init a_Straight_fits a_Straight_cut a_Stopped_init a_Stopped_fits a_Stopped_counted a_Stopped_cut a_stops_of a_Parted_init a_Parted_fits a_Parted_counted a_Parted_cut a_pieces a_scaled a_summed a_put_in a_steered a_misread a_rounded a_wider a_put_late a_late a__law_cell_at a__law_stream a__law_number a__law_parts a__law_straight a__law_rule a__law_scaled a__law_put a__law_put_late a__law_told a__law_right a_law C_BadThing C_TooMany C_Mode C_Thing C_Rule C_Straight C_Stopped C_Parted : Addr}
/-! ### is_whole -/
abbrev s_is_whole : Stmt := topS 8
theorem sc_is_whole : FnScope N_is_whole ["thing"] (defScope s_is_whole) := ⟨rfl, rfl, rfl, by decide +kernel, rfl, by decide +kernel, by decide +kernel⟩
theorem der_is_whole (T : Txt K mg a_is_whole a_own a_own_list a_are_wholes a_is_row a_is_room a_is_table a_Mode_init a_is_mode a_is_push a_Thing_init a_Thing_pushes a_Thing_modes a_Thing_is_closed a_Rule_counted a_Straight_init a_Straight_fits a_Straight_cut a_Stopped_init a_Stopped_fits a_Stopped_counted a_Stopped_cut a_stops_of a_Parted_init a_Parted_fits a_Parted_counted a_Parted_cut a_pieces a_scaled a_summed a_put_in a_steered a_misread a_rounded a_wider a_put_late a_late a__law_cell_at a__law_stream a__law_number a__law_parts a__law_straight a__law_rule a__law_scaled a__law_put a__law_put_late a__law_told a__law_right a_law C_BadThing C_TooMany C_Mode C_Thing C_Rule C_Straight C_Stopped C_Parted) 
    {f : Addr} {cdv : Value} {A : Around} {outer : List Env} {s : Shared} {H : Hp} {E : XK} (hr : Room 0 (A.deeper (envOfC "is_whole" (defScope s_is_whole) s.heap.objs.size f cdv))) :
    RSs (cxOf (L2.CX P w) P w K mg base N_is_whole "is_whole" (defScope s_is_whole) f cdv A outer s H E) (WF E) (defBody s_is_whole) (tb_is_whole K) :=
  (rss_one (rs_ret (re_and (RE.p (re_callB (cd_isi (K := K)) T.b_isinstance (rpa_cons (rp_var 0) (rpa_cons (RE.p (re_ty T.b_int (by decide +kernel))) rpa_nil)))) (re_one (re_not (RE.p (re_callB (cd_isi (K := K)) T.b_isinstance (rpa_cons (rp_var 0) (rpa_cons (RE.p (re_ty T.b_bool (by decide +kernel))) rpa_nil)))))))))
/-! ### own -/
abbrev s_own : Stmt := topS 21
theorem sc_own : FnScope N_own ["thing"] (defScope s_own) := ⟨rfl, rfl, rfl, by decide +kernel, rfl, by decide +kernel, by decide +kernel⟩
theorem der_own (T : Txt K mg a_is_whole a_own a_own_list a_are_wholes a_is_row a_is_room a_is_table a_Mode_init a_is_mode a_is_push a_Thing_init a_Thing_pushes a_Thing_modes a_Thing_is_closed a_Rule_counted a_Straight_init a_Straight_fits a_Straight_cut a_Stopped_init a_Stopped_fits a_Stopped_counted a_Stopped_cut a_stops_of a_Parted_init a_Parted_fits a_Parted_counted a_Parted_cut a_pieces a_scaled a_summed a_put_in a_steered a_misread a_rounded a_wider a_put_late a_late a__law_cell_at a__law_stream a__law_number a__law_parts a__law_straight a__law_rule a__law_scaled a__law_put a__law_put_late a__law_told a__law_right a_law C_BadThing C_TooMany C_Mode C_Thing C_Rule C_Straight C_Stopped C_Parted) (D_own_list : FD P w K mg base 1 a_own_list 1 [] g_own_list)
    {f : Addr} {cdv : Value} {A : Around} {outer : List Env} {s : Shared} {H : Hp} {E : XK} (hr : Room 1 (A.deeper (envOfC "own" (defScope s_own) s.heap.objs.size f cdv))) :
    RSs (cxOf (L2.CX P w) P w K mg base N_own "own" (defScope s_own) f cdv A outer s H E) (WF E) (defBody s_own) (tb_own K) :=
  (rss_cons (rs_if (rt_not (rt_val (RE.p (re_callB (cd_isi (K := K)) T.b_isinstance (rpa_cons (rp_var 0) (rpa_cons (RE.p (re_ty T.b_list (by decide +kernel))) rpa_nil)))))) (rss_one (rs_ret (re_var 0))) rss_nil) (rss_one (rs_ret (by exact (RN.e (rn_lc sc_own.nd (ri_seq (re_var 0)) (blkOk_by (own := [("one", 1)]) (N := N_own) (sc := (defScope s_own)) (by decide +kernel)) (fun _ _ _ _ _ => (rg_name 1 sc_own.nd)) (fun _ _ _ _ _ => rts_nil) (fun _ _ _ _ _ => (re_call D_own_list (hr.mono (by decide)) T.f_own_list takes0 (ra_cons (re_var 1) ra_nil)))))))))
/-! ### own_list -/
abbrev s_own_list : Stmt := topS 22
theorem sc_own_list : FnScope N_own_list ["thing"] (defScope s_own_list) := ⟨rfl, rfl, rfl, by decide +kernel, rfl, by decide +kernel, by decide +kernel⟩
theorem der_own_list (T : Txt K mg a_is_whole a_own a_own_list a_are_wholes a_is_row a_is_room a_is_table a_Mode_init a_is_mode a_is_push a_Thing_init a_Thing_pushes a_Thing_modes a_Thing_is_closed a_Rule_counted a_Straight_init a_Straight_fits a_Straight_cut a_Stopped_init a_Stopped_fits a_Stopped_counted a_Stopped_cut a_stops_of a_Parted_init a_Parted_fits a_Parted_counted a_Parted_cut a_pieces a_scaled a_summed a_put_in a_steered a_misread a_rounded a_wider a_put_late a_late a__law_cell_at a__law_stream a__law_number a__law_parts a__law_straight a__law_rule a__law_scaled a__law_put a__law_put_late a__law_told a__law_right a_law C_BadThing C_TooMany C_Mode C_Thing C_Rule C_Straight C_Stopped C_Parted) 
    {f : Addr} {cdv : Value} {A : Around} {outer : List Env} {s : Shared} {H : Hp} {E : XK} (hr : Room 0 (A.deeper (envOfC "own_list" (defScope s_own_list) s.heap.objs.size f cdv))) :
    RSs (cxOf (L2.CX P w) P w K mg base N_own_list "own_list" (defScope s_own_list) f cdv A outer s H E) (WF E) (defBody s_own_list) (tb_own_list K) :=
  (rss_cons (rs_if (rt_val (RE.p (re_callB (cd_isi (K := K)) T.b_isinstance (rpa_cons (rp_var 0) (rpa_cons (RE.p (re_ty T.b_list (by decide +kernel))) rpa_nil))))) (rss_one (rs_ret (re_callTy cd_list T.b_list (rpa_cons (rp_var 0) rpa_nil)))) rss_nil) (rss_one (rs_ret (re_var 0))))
/-! ### are_wholes -/
abbrev s_are_wholes : Stmt := topS 23
theorem sc_are_wholes : FnScope N_are_wholes ["thing", "many"] (defScope s_are_wholes) := ⟨rfl, rfl, rfl, by decide +kernel, rfl, by decide +kernel, by decide +kernel⟩
theorem der_are_wholes (T : Txt K mg a_is_whole a_own a_own_list a_are_wholes a_is_row a_is_room a_is_table a_Mode_init a_is_mode a_is_push a_Thing_init a_Thing_pushes a_Thing_modes a_Thing_is_closed a_Rule_counted a_Straight_init a_Straight_fits a_Straight_cut a_Stopped_init a_Stopped_fits a_Stopped_counted a_Stopped_cut a_stops_of a_Parted_init a_Parted_fits a_Parted_counted a_Parted_cut a_pieces a_scaled a_summed a_put_in a_steered a_misread a_rounded a_wider a_put_late a_late a__law_cell_at a__law_stream a__law_number a__law_parts a__law_straight a__law_rule a__law_scaled a__law_put a__law_put_late a__law_told a__law_right a_law C_BadThing C_TooMany C_Mode C_Thing C_Rule C_Straight C_Stopped C_Parted) (D_is_whole : FD P w K mg base 1 a_is_whole 1 [] g_is_whole)
    {f : Addr} {cdv : Value} {A : Around} {outer : List Env} {s : Shared} {H : Hp} {E : XK} (hr : Room 1 (A.deeper (envOfC "are_wholes" (defScope s_are_wholes) s.heap.objs.size f cdv))) :
    RSs (cxOf (L2.CX P w) P w K mg base N_are_wholes "are_wholes" (defScope s_are_wholes) f cdv A outer s H E) (WF E) (defBody s_are_wholes) (tb_are_wholes K) :=
  (rss_one (rs_ret (re_and (RE.p (re_callB (cd_isi (K := K)) T.b_isinstance (rpa_cons (rp_var 0) (rpa_cons (RE.p (re_ty T.b_list (by decide +kernel))) rpa_nil)))) (re_and (RE.p (re_cmp (opd_eq hr.units) (RE.p (re_callB cd_len T.b_len (rpa_cons (rp_var 0) rpa_nil))) (rp_var 1))) (re_one (re_callB (cd_all rfl) T.b_all (rpa_cons (RE.p (by exact (RN.e (rn_lc sc_are_wholes.nd (ri_seq (re_var 0)) (blkOk_by (own := [("one", 2)]) (N := N_are_wholes) (sc := (defScope s_are_wholes)) (by decide +kernel)) (fun _ _ _ _ _ => (rg_name 2 sc_are_wholes.nd)) (fun _ _ _ _ _ => rts_nil) (fun _ _ _ _ _ => (re_call D_is_whole (hr.mono (by decide)) T.f_is_whole takes0 (ra_cons (re_var 2) ra_nil))))))) rpa_nil)))))))
/-! ### is_row -/
abbrev s_is_row : Stmt := topS 24
theorem sc_is_row : FnScope N_is_row ["thing", "many"] (defScope s_is_row) := ⟨rfl, rfl, rfl, by decide +kernel, rfl, by decide +kernel, by decide +kernel⟩
theorem der_is_row (T : Txt K mg a_is_whole a_own a_own_list a_are_wholes a_is_row a_is_room a_is_table a_Mode_init a_is_mode a_is_push a_Thing_init a_Thing_pushes a_Thing_modes a_Thing_is_closed a_Rule_counted a_Straight_init a_Straight_fits a_Straight_cut a_Stopped_init a_Stopped_fits a_Stopped_counted a_Stopped_cut a_stops_of a_Parted_init a_Parted_fits a_Parted_counted a_Parted_cut a_pieces a_scaled a_summed a_put_in a_steered a_misread a_rounded a_wider a_put_late a_late a__law_cell_at a__law_stream a__law_number a__law_parts a__law_straight a__law_rule a__law_scaled a__law_put a__law_put_late a__law_told a__law_right a_law C_BadThing C_TooMany C_Mode C_Thing C_Rule C_Straight C_Stopped C_Parted) (D_is_whole : FD P w K mg base 1 a_is_whole 1 [] g_is_whole)
    {f : Addr} {cdv : Value} {A : Around} {outer : List Env} {s : Shared} {H : Hp} {E : XK} (hr : Room 1 (A.deeper (envOfC "is_row" (defScope s_is_row) s.heap.objs.size f cdv))) :
    RSs (cxOf (L2.CX P w) P w K mg base N_is_row "is_row" (defScope s_is_row) f cdv A outer s H E) (WF E) (defBody s_is_row) (tb_is_row K) :=
  (rss_one (rs_ret (re_and (RE.p (re_callB (cd_isi (K := K)) T.b_isinstance (rpa_cons (rp_var 0) (rpa_cons (RE.p (re_ty T.b_tuple (by decide +kernel))) rpa_nil)))) (re_and (RE.p (re_cmp (opd_eq hr.units) (RE.p (re_callB cd_len T.b_len (rpa_cons (rp_var 0) rpa_nil))) (RE.p (re_op opd_add (rp_var 1) (RE.p re_int))))) (re_one (re_callB (cd_all rfl) T.b_all (rpa_cons (RE.p (by exact (RN.e (rn_lc sc_is_row.nd (ri_seq (re_var 0)) (blkOk_by (own := [("one", 2)]) (N := N_is_row) (sc := (defScope s_is_row)) (by decide +kernel)) (fun _ _ _ _ _ => (rg_name 2 sc_is_row.nd)) (fun _ _ _ _ _ => rts_nil) (fun _ _ _ _ _ => (re_call D_is_whole (hr.mono (by decide)) T.f_is_whole takes0 (ra_cons (re_var 2) ra_nil))))))) rpa_nil)))))))
/-! ### is_room -/
abbrev s_is_room : Stmt := topS 25
theorem sc_is_room : FnScope N_is_room ["thing", "many"] (defScope s_is_room) := ⟨rfl, rfl, rfl, by decide +kernel, rfl, by decide +kernel, by decide +kernel⟩
theorem der_is_room (T : Txt K mg a_is_whole a_own a_own_list a_are_wholes a_is_row a_is_room a_is_table a_Mode_init a_is_mode a_is_push a_Thing_init a_Thing_pushes a_Thing_modes a_Thing_is_closed a_Rule_counted a_Straight_init a_Straight_fits a_Straight_cut a_Stopped_init a_Stopped_fits a_Stopped_counted a_Stopped_cut a_stops_of a_Parted_init a_Parted_fits a_Parted_counted a_Parted_cut a_pieces a_scaled a_summed a_put_in a_steered a_misread a_rounded a_wider a_put_late a_late a__law_cell_at a__law_stream a__law_number a__law_parts a__law_straight a__law_rule a__law_scaled a__law_put a__law_put_late a__law_told a__law_right a_law C_BadThing C_TooMany C_Mode C_Thing C_Rule C_Straight C_Stopped C_Parted) (D_is_row : FD P w K mg base 2 a_is_row 2 [] g_is_row)
    {f : Addr} {cdv : Value} {A : Around} {outer : List Env} {s : Shared} {H : Hp} {E : XK} (hr : Room 2 (A.deeper (envOfC "is_room" (defScope s_is_room) s.heap.objs.size f cdv))) :
    RSs (cxOf (L2.CX P w) P w K mg base N_is_room "is_room" (defScope s_is_room) f cdv A outer s H E) (WF E) (defBody s_is_room) (tb_is_room K) :=
  (rss_one (rs_ret (re_and (RE.p (re_callB (cd_isi (K := K)) T.b_isinstance (rpa_cons (rp_var 0) (rpa_cons (RE.p (re_ty T.b_list (by decide +kernel))) rpa_nil)))) (re_one (re_callB (cd_all rfl) T.b_all (rpa_cons (RE.p (by exact (RN.e (rn_lc sc_is_room.nd (ri_seq (re_var 0)) (blkOk_by (own := [("row", 2)]) (N := N_is_room) (sc := (defScope s_is_room)) (by decide +kernel)) (fun _ _ _ _ _ => (rg_name 2 sc_is_room.nd)) (fun _ _ _ _ _ => rts_nil) (fun _ _ _ _ _ => (re_call D_is_row (hr.mono (by decide)) T.f_is_row takes0 (ra_cons (re_var 2) (ra_cons (re_var 1) ra_nil)))))))) rpa_nil))))))
/-! ### is_table -/
abbrev s_is_table : Stmt := topS 26
theorem sc_is_table : FnScope N_is_table ["thing", "many", "wide"] (defScope s_is_table) := ⟨rfl, rfl, rfl, by decide +kernel, rfl, by decide +kernel, by decide +kernel⟩
theorem der_is_table (T : Txt K mg a_is_whole a_own a_own_list a_are_wholes a_is_row a_is_room a_is_table a_Mode_init a_is_mode a_is_push a_Thing_init a_Thing_pushes a_Thing_modes a_Thing_is_closed a_Rule_counted a_Straight_init a_Straight_fits a_Straight_cut a_Stopped_init a_Stopped_fits a_Stopped_counted a_Stopped_cut a_stops_of a_Parted_init a_Parted_fits a_Parted_counted a_Parted_cut a_pieces a_scaled a_summed a_put_in a_steered a_misread a_rounded a_wider a_put_late a_late a__law_cell_at a__law_stream a__law_number a__law_parts a__law_straight a__law_rule a__law_scaled a__law_put a__law_put_late a__law_told a__law_right a_law C_BadThing C_TooMany C_Mode C_Thing C_Rule C_Straight C_Stopped C_Parted) (D_are_wholes : FD P w K mg base 2 a_are_wholes 2 [] g_are_wholes)
    {f : Addr} {cdv : Value} {A : Around} {outer : List Env} {s : Shared} {H : Hp} {E : XK} (hr : Room 2 (A.deeper (envOfC "is_table" (defScope s_is_table) s.heap.objs.size f cdv))) :
    RSs (cxOf (L2.CX P w) P w K mg base N_is_table "is_table" (defScope s_is_table) f cdv A outer s H E) (WF E) (defBody s_is_table) (tb_is_table K) :=
  (rss_one (rs_ret (re_and (RE.p (re_callB (cd_isi (K := K)) T.b_isinstance (rpa_cons (rp_var 0) (rpa_cons (RE.p (re_ty T.b_list (by decide +kernel))) rpa_nil)))) (re_and (RE.p (re_cmp (opd_eq hr.units) (RE.p (re_callB cd_len T.b_len (rpa_cons (rp_var 0) rpa_nil))) (rp_var 1))) (re_one (re_callB (cd_all rfl) T.b_all (rpa_cons (RE.p (by exact (RN.e (rn_lc sc_is_table.nd (ri_seq (re_var 0)) (blkOk_by (own := [("one", 3)]) (N := N_is_table) (sc := (defScope s_is_table)) (by decide +kernel)) (fun _ _ _ _ _ => (rg_name 3 sc_is_table.nd)) (fun _ _ _ _ _ => rts_nil) (fun _ _ _ _ _ => (re_call D_are_wholes (hr.mono (by decide)) T.f_are_wholes takes0 (ra_cons (re_var 3) (ra_cons (re_var 2) ra_nil)))))))) rpa_nil)))))))
/-! ### Mode_init -/
abbrev s_Mode_init : Stmt := inClass (topS 27) 0
theorem sc_Mode_init : FnScope N_Mode_init ["self", "rows", "nexts", "steer", "push", "add", "divisor"] (defScope s_Mode_init) := ⟨rfl, rfl, rfl, by decide +kernel, rfl, by decide +kernel, by decide +kernel⟩
theorem der_Mode_init (T : Txt K mg a_is_whole a_own a_own_list a_are_wholes a_is_row a_is_room a_is_table a_Mode_init a_is_mode a_is_push a_Thing_init a_Thing_pushes a_Thing_modes a_Thing_is_closed a_Rule_counted a_Straight_init a_Straight_fits a_Straight_cut a_Stopped_init a_Stopped_fits a_Stopped_counted a_Stopped_cut a_stops_of a_Parted_init a_Parted_fits a_Parted_counted a_Parted_cut a_pieces a_scaled a_summed a_put_in a_steered a_misread a_rounded a_wider a_put_late a_late a__law_cell_at a__law_stream a__law_number a__law_parts a__law_straight a__law_rule a__law_scaled a__law_put a__law_put_late a__law_told a__law_right a_law C_BadThing C_TooMany C_Mode C_Thing C_Rule C_Straight C_Stopped C_Parted) (D_own : FD P w K mg base 2 a_own 1 [] g_own)
    {f : Addr} {cdv : Value} {A : Around} {outer : List Env} {s : Shared} {H : Hp} {E : XK} (hr : Room 2 (A.deeper (envOfC "Mode.__init__" (defScope s_Mode_init) s.heap.objs.size f cdv))) :
    RSs (cxOf (L2.CX P w) P w K mg base N_Mode_init "Mode.__init__" (defScope s_Mode_init) f cdv A outer s H E) (WF E) (defBody s_Mode_init) (tb_Mode_init K) :=
  (rss_cons (rs_fldS (K := K) 0 (re_call D_own (hr.mono (by decide)) T.f_own (takes_of rfl rfl rfl rfl) (ra_cons (re_var 1) ra_nil))) (rss_cons (rs_fldS (K := K) 0 (re_call D_own (hr.mono (by decide)) T.f_own (takes_of rfl rfl rfl rfl) (ra_cons (re_var 2) ra_nil))) (rss_cons (rs_fldS (K := K) 0 (re_call D_own (hr.mono (by decide)) T.f_own (takes_of rfl rfl rfl rfl) (ra_cons (re_var 3) ra_nil))) (rss_cons (rs_fldS (K := K) 0 (re_call D_own (hr.mono (by decide)) T.f_own (takes_of rfl rfl rfl rfl) (ra_cons (re_var 4) ra_nil))) (rss_cons (rs_fldS (K := K) 0 (re_call D_own (hr.mono (by decide)) T.f_own (takes_of rfl rfl rfl rfl) (ra_cons (re_var 5) ra_nil))) (rss_one (rs_fldS (K := K) 0 (re_var 6))))))))
/-! ### is_mode -/
abbrev s_is_mode : Stmt := topS 28
theorem sc_is_mode : FnScope N_is_mode ["thing", "many", "wide"] (defScope s_is_mode) := ⟨rfl, rfl, rfl, by decide +kernel, rfl, by decide +kernel, by decide +kernel⟩
theorem der_is_mode (T : Txt K mg a_is_whole a_own a_own_list a_are_wholes a_is_row a_is_room a_is_table a_Mode_init a_is_mode a_is_push a_Thing_init a_Thing_pushes a_Thing_modes a_Thing_is_closed a_Rule_counted a_Straight_init a_Straight_fits a_Straight_cut a_Stopped_init a_Stopped_fits a_Stopped_counted a_Stopped_cut a_stops_of a_Parted_init a_Parted_fits a_Parted_counted a_Parted_cut a_pieces a_scaled a_summed a_put_in a_steered a_misread a_rounded a_wider a_put_late a_late a__law_cell_at a__law_stream a__law_number a__law_parts a__law_straight a__law_rule a__law_scaled a__law_put a__law_put_late a__law_told a__law_right a_law C_BadThing C_TooMany C_Mode C_Thing C_Rule C_Straight C_Stopped C_Parted) (D_is_whole : FD P w K mg base 1 a_is_whole 1 [] g_is_whole) (D_are_wholes : FD P w K mg base 2 a_are_wholes 2 [] g_are_wholes) (D_is_room : FD P w K mg base 3 a_is_room 2 [] g_is_room) (D_is_table : FD P w K mg base 3 a_is_table 3 [] g_is_table)
    {f : Addr} {cdv : Value} {A : Around} {outer : List Env} {s : Shared} {H : Hp} {E : XK} (hr : Room 3 (A.deeper (envOfC "is_mode" (defScope s_is_mode) s.heap.objs.size f cdv))) :
    RSs (cxOf (L2.CX P w) P w K mg base N_is_mode "is_mode" (defScope s_is_mode) f cdv A outer s H E) (WF E) (defBody s_is_mode) (tb_is_mode K C_Mode) :=
  (rss_cons (rs_if (RW.toT (rw_or (rt_not (rt_val (RE.p (re_callB (cd_isi (K := K)) T.b_isinstance (rpa_cons (rp_var 0) (rpa_cons (RE.p (re_glob T.c_Mode rfl)) rpa_nil)))))) (rw_or (rt_not (rt_val (RE.p (re_call D_is_room (hr.mono (by decide)) T.f_is_room (takes_of rfl rfl rfl rfl) (ra_cons (re_fld (K := K) (re_var 0)) (ra_cons (re_var 1) ra_nil)))))) (rw_or1 (rt_not (rt_val (RE.p (re_call D_is_table (hr.mono (by decide)) T.f_is_table (takes_of rfl rfl rfl rfl) (ra_cons (re_fld (K := K) (re_var 0)) (ra_cons (re_var 1) (ra_cons (re_var 1) ra_nil))))))))))) (rss_one (rs_ret re_bl)) rss_nil) (rss_cons (rs_if (RW.toT (rw_or (rt_not (rt_val (RE.p (re_call D_are_wholes (hr.mono (by decide)) T.f_are_wholes (takes_of rfl rfl rfl rfl) (ra_cons (re_fld (K := K) (re_var 0)) (ra_cons (re_var 1) ra_nil)))))) (rw_or (rt_not (rt_val (RE.p (re_call D_is_table (hr.mono (by decide)) T.f_is_table (takes_of rfl rfl rfl rfl) (ra_cons (re_fld (K := K) (re_var 0)) (ra_cons (re_var 1) (ra_cons (re_var 2) ra_nil))))))) (rw_or1 (rt_not (rt_val (RE.p (re_call D_are_wholes (hr.mono (by decide)) T.f_are_wholes (takes_of rfl rfl rfl rfl) (ra_cons (re_fld (K := K) (re_var 0)) (ra_cons (re_var 1) ra_nil)))))))))) (rss_one (rs_ret re_bl)) rss_nil) (rss_one (rs_ret (re_and (RE.p (re_call D_is_whole (hr.mono (by decide)) T.f_is_whole (takes_of rfl rfl rfl rfl) (ra_cons (re_fld (K := K) (re_var 0)) ra_nil))) (re_one (re_cmp opd_ge (RE.p (re_fld (K := K) (re_var 0))) (RE.p re_int))))))))
/-! ### is_push -/
abbrev s_is_push : Stmt := topS 29
theorem sc_is_push : FnScope N_is_push ["thing"] (defScope s_is_push) := ⟨rfl, rfl, rfl, by decide +kernel, rfl, by decide +kernel, by decide +kernel⟩
theorem der_is_push (T : Txt K mg a_is_whole a_own a_own_list a_are_wholes a_is_row a_is_room a_is_table a_Mode_init a_is_mode a_is_push a_Thing_init a_Thing_pushes a_Thing_modes a_Thing_is_closed a_Rule_counted a_Straight_init a_Straight_fits a_Straight_cut a_Stopped_init a_Stopped_fits a_Stopped_counted a_Stopped_cut a_stops_of a_Parted_init a_Parted_fits a_Parted_counted a_Parted_cut a_pieces a_scaled a_summed a_put_in a_steered a_misread a_rounded a_wider a_put_late a_late a__law_cell_at a__law_stream a__law_number a__law_parts a__law_straight a__law_rule a__law_scaled a__law_put a__law_put_late a__law_told a__law_right a_law C_BadThing C_TooMany C_Mode C_Thing C_Rule C_Straight C_Stopped C_Parted) (D_is_whole : FD P w K mg base 1 a_is_whole 1 [] g_is_whole)
    {f : Addr} {cdv : Value} {A : Around} {outer : List Env} {s : Shared} {H : Hp} {E : XK} (hr : Room 1 (A.deeper (envOfC "is_push" (defScope s_is_push) s.heap.objs.size f cdv))) :
    RSs (cxOf (L2.CX P w) P w K mg base N_is_push "is_push" (defScope s_is_push) f cdv A outer s H E) (WF E) (defBody s_is_push) (tb_is_push K) :=
  (rss_cons (rs_if (RW.toT (rw_or (rt_not (rt_val (RE.p (re_callB (cd_isi (K := K)) T.b_isinstance (rpa_cons (rp_var 0) (rpa_cons (RE.p (re_ty T.b_tuple (by decide +kernel))) rpa_nil)))))) (rw_or (rt_cmp (opd_ne hr.units) (RE.p (re_callB cd_len T.b_len (rpa_cons (rp_var 0) rpa_nil))) (RE.p re_int)) (rw_or (rt_not (rt_val (RE.p (re_call D_is_whole (hr.mono (by decide)) T.f_is_whole (takes_of rfl rfl rfl rfl) (ra_cons (re_ix ixd_seq (rp_var 0) (RE.p re_int)) ra_nil))))) (rw_or1 (rt_not (rt_val (RE.p (re_call D_is_whole (hr.mono (by decide)) T.f_is_whole (takes_of rfl rfl rfl rfl) (ra_cons (re_ix ixd_seq (rp_var 0) (RE.p re_int)) ra_nil)))))))))) (rss_one (rs_ret re_bl)) rss_nil) (rss_one (rs_ret (re_cmp opd_le (RE.p (re_ix ixd_seq (rp_var 0) (RE.p re_int))) (RE.p (re_ix ixd_seq (rp_var 0) (RE.p re_int)))))))
/-! ### Thing_init -/
abbrev s_Thing_init : Stmt := inClass (topS 30) 0
theorem sc_Thing_init : FnScope N_Thing_init ["self", "many", "pushes", "modes"] (defScope s_Thing_init) := ⟨rfl, rfl, rfl, by decide +kernel, rfl, by decide +kernel, by decide +kernel⟩
theorem der_Thing_init (T : Txt K mg a_is_whole a_own a_own_list a_are_wholes a_is_row a_is_room a_is_table a_Mode_init a_is_mode a_is_push a_Thing_init a_Thing_pushes a_Thing_modes a_Thing_is_closed a_Rule_counted a_Straight_init a_Straight_fits a_Straight_cut a_Stopped_init a_Stopped_fits a_Stopped_counted a_Stopped_cut a_stops_of a_Parted_init a_Parted_fits a_Parted_counted a_Parted_cut a_pieces a_scaled a_summed a_put_in a_steered a_misread a_rounded a_wider a_put_late a_late a__law_cell_at a__law_stream a__law_number a__law_parts a__law_straight a__law_rule a__law_scaled a__law_put a__law_put_late a__law_told a__law_right a_law C_BadThing C_TooMany C_Mode C_Thing C_Rule C_Straight C_Stopped C_Parted) (D_is_whole : FD P w K mg base 1 a_is_whole 1 [] g_is_whole) (D_is_mode : FD P w K mg base 4 a_is_mode 3 [] (g_is_mode C_Mode)) (D_is_push : FD P w K mg base 2 a_is_push 1 [] g_is_push)
    {f : Addr} {cdv : Value} {A : Around} {outer : List Env} {s : Shared} {H : Hp} {E : XK} (hr : Room 4 (A.deeper (envOfC "Thing.__init__" (defScope s_Thing_init) s.heap.objs.size f cdv))) :
    RSs (cxOf (L2.CX P w) P w K mg base N_Thing_init "Thing.__init__" (defScope s_Thing_init) f cdv A outer s H E) (WF E) (defBody s_Thing_init) (tb_Thing_init K C_BadThing C_Mode C_TooMany) :=
  (rss_cons (rs_if (RW.toT (rw_or (rt_not (rt_val (RE.p (re_call D_is_whole (hr.mono (by decide)) T.f_is_whole (takes_of rfl rfl rfl rfl) (ra_cons (re_var 1) ra_nil))))) (rw_or1 (rt_not (rt_chain' opd_le opd_le (RE.p re_int) (rp_var 1) (RE.p (re_glob (d := (.int 3)) (Classical.choose_spec T.g_MOST_NUMBERS) ⟨_, rfl⟩))))))) (rss_one (rs_raise T.x_BadThing (takes_of rfl rfl rfl rfl))) rss_nil) (rss_cons (rs_if (RW.toT (rw_or (rt_not (rt_val (RE.p (re_callB (cd_isi (K := K)) T.b_isinstance (rpa_cons (rp_var 2) (rpa_cons (RE.p (re_ty T.b_list (by decide +kernel))) rpa_nil)))))) (rw_or1 (rt_not (rt_val (RE.p (re_callB (cd_all rfl) T.b_all (rpa_cons (RE.p (by exact (RN.e (rn_lc sc_Thing_init.nd (ri_seq (re_var 2)) (blkOk_by (own := [("push", 4)]) (N := N_Thing_init) (sc := (defScope s_Thing_init)) (by decide +kernel)) (fun _ _ _ _ _ => (rg_name 4 sc_Thing_init.nd)) (fun _ _ _ _ _ => rts_nil) (fun _ _ _ _ _ => (re_call D_is_push (hr.mono (by decide)) T.f_is_push takes0 (ra_cons (re_var 4) ra_nil))))))) rpa_nil)))))))) (rss_one (rs_raise T.x_BadThing (takes_of rfl rfl rfl rfl))) rss_nil) (rss_cons (rs_if (RW.toT (rw_or (rt_not (rt_val (RE.p (re_callB (cd_isi (K := K)) T.b_isinstance (rpa_cons (rp_var 3) (rpa_cons (RE.p (re_ty T.b_list (by decide +kernel))) rpa_nil)))))) (rw_or1 (rt_cmp (opd_eqZ hr.units) (rp_var 3) (RE.p (re_lst ra_nil)))))) (rss_one (rs_raise T.x_BadThing (takes_of rfl rfl rfl rfl))) rss_nil) (rss_cons (rs_if (rt_not (rt_val (RE.p (re_callB (cd_all rfl) T.b_all (rpa_cons (RE.p (by exact (RN.e (rn_lc sc_Thing_init.nd (ri_seq (re_var 3)) (blkOk_by (own := [("mode", 5)]) (N := N_Thing_init) (sc := (defScope s_Thing_init)) (by decide +kernel)) (fun _ _ _ _ _ => (rg_name 5 sc_Thing_init.nd)) (fun _ _ _ _ _ => rts_nil) (fun _ _ _ _ _ => (re_call D_is_mode (hr.mono (by decide)) T.f_is_mode takes0 (ra_cons (re_var 5) (ra_cons (re_var 1) (ra_cons (re_callB cd_len T.b_len (rpa_cons (rp_var 2) rpa_nil)) ra_nil))))))))) rpa_nil))))) (rss_one (rs_raise T.x_BadThing (takes_of rfl rfl rfl rfl))) rss_nil) (rss_cons (rs_if (RW.toT (rw_or (rt_cmp opd_gt (RE.p (re_callB cd_len T.b_len (rpa_cons (rp_var 2) rpa_nil))) (RE.p (re_glob (d := (.int 6)) (Classical.choose_spec T.g_MOST_PUSHES) ⟨_, rfl⟩))) (rw_or1 (rt_cmp opd_gt (RE.p (re_callB cd_len T.b_len (rpa_cons (rp_var 3) rpa_nil))) (RE.p (re_glob (d := (.int 40)) (Classical.choose_spec T.g_MOST_MODES) ⟨_, rfl⟩)))))) (rss_one (rs_raise T.x_TooMany (takes_of rfl rfl rfl rfl))) rss_nil) (rss_cons (rs_fldS (K := K) 0 (re_var 1)) (rss_cons (rs_fldS (K := K) 0 (re_callTy cd_list T.b_list (rpa_cons (rp_var 2) rpa_nil))) (rss_one (rs_fldS (K := K) 0 (re_callTy cd_list T.b_list (rpa_cons (rp_var 3) rpa_nil)))))))))))
/-! ### Thing_pushes -/
abbrev s_Thing_pushes : Stmt := inClass (topS 30) 1
theorem sc_Thing_pushes : FnScope N_Thing_pushes ["self"] (defScope s_Thing_pushes) := ⟨rfl, rfl, rfl, by decide +kernel, rfl, by decide +kernel, by decide +kernel⟩
theorem der_Thing_pushes (T : Txt K mg a_is_whole a_own a_own_list a_are_wholes a_is_row a_is_room a_is_table a_Mode_init a_is_mode a_is_push a_Thing_init a_Thing_pushes a_Thing_modes a_Thing_is_closed a_Rule_counted a_Straight_init a_Straight_fits a_Straight_cut a_Stopped_init a_Stopped_fits a_Stopped_counted a_Stopped_cut a_stops_of a_Parted_init a_Parted_fits a_Parted_counted a_Parted_cut a_pieces a_scaled a_summed a_put_in a_steered a_misread a_rounded a_wider a_put_late a_late a__law_cell_at a__law_stream a__law_number a__law_parts a__law_straight a__law_rule a__law_scaled a__law_put a__law_put_late a__law_told a__law_right a_law C_BadThing C_TooMany C_Mode C_Thing C_Rule C_Straight C_Stopped C_Parted) 
    {f : Addr} {cdv : Value} {A : Around} {outer : List Env} {s : Shared} {H : Hp} {E : XK} (hr : Room 0 (A.deeper (envOfC "Thing.pushes" (defScope s_Thing_pushes) s.heap.objs.size f cdv))) :
    RSs (cxOf (L2.CX P w) P w K mg base N_Thing_pushes "Thing.pushes" (defScope s_Thing_pushes) f cdv A outer s H E) (WF E) (defBody s_Thing_pushes) (tb_Thing_pushes K) :=
  (rss_one (rs_ret (re_callTy cd_list T.b_list (rpa_cons (RE.p (re_fld (K := K) (re_var 0))) rpa_nil))))
/-! ### Thing_modes -/
abbrev s_Thing_modes : Stmt := inClass (topS 30) 2
theorem sc_Thing_modes : FnScope N_Thing_modes ["self"] (defScope s_Thing_modes) := ⟨rfl, rfl, rfl, by decide +kernel, rfl, by decide +kernel, by decide +kernel⟩
theorem der_Thing_modes (T : Txt K mg a_is_whole a_own a_own_list a_are_wholes a_is_row a_is_room a_is_table a_Mode_init a_is_mode a_is_push a_Thing_init a_Thing_pushes a_Thing_modes a_Thing_is_closed a_Rule_counted a_Straight_init a_Straight_fits a_Straight_cut a_Stopped_init a_Stopped_fits a_Stopped_counted a_Stopped_cut a_stops_of a_Parted_init a_Parted_fits a_Parted_counted a_Parted_cut a_pieces a_scaled a_summed a_put_in a_steered a_misread a_rounded a_wider a_put_late a_late a__law_cell_at a__law_stream a__law_number a__law_parts a__law_straight a__law_rule a__law_scaled a__law_put a__law_put_late a__law_told a__law_right a_law C_BadThing C_TooMany C_Mode C_Thing C_Rule C_Straight C_Stopped C_Parted) 
    {f : Addr} {cdv : Value} {A : Around} {outer : List Env} {s : Shared} {H : Hp} {E : XK} (hr : Room 0 (A.deeper (envOfC "Thing.modes" (defScope s_Thing_modes) s.heap.objs.size f cdv))) :
    RSs (cxOf (L2.CX P w) P w K mg base N_Thing_modes "Thing.modes" (defScope s_Thing_modes) f cdv A outer s H E) (WF E) (defBody s_Thing_modes) (tb_Thing_modes K) :=
  (rss_one (rs_ret (re_callTy cd_list T.b_list (rpa_cons (RE.p (re_fld (K := K) (re_var 0))) rpa_nil))))
/-! ### Thing_is_closed -/
abbrev s_Thing_is_closed : Stmt := inClass (topS 30) 3
abbrev N_Thing_is_closed : List Str := ["self", "mode"]
theorem sc_Thing_is_closed : FnScope N_Thing_is_closed ["self"] (defScope s_Thing_is_closed) := ⟨rfl, rfl, rfl, by decide +kernel, rfl, by decide +kernel, by decide +kernel⟩
def tb_Thing_is_closed (K : PySem.W.Frag) : DS :=
  (dRet (dCB kAll (dCons (dFz (dLcN (dSeq (dFld K "ways" (dVar 0))) (gNm 1) dYes (dOp kEq (dFld K "steer" (dVar 1)) (dOp kMul (dLst (dCons (dC (.int 0)) dNil)) (dFld K "many" (dVar 0)))) [1])) dNil)))
theorem der_Thing_is_closed (T : Txt K mg a_is_whole a_own a_own_list a_are_wholes a_is_row a_is_room a_is_table a_Mode_init a_is_mode a_is_push a_Thing_init a_Thing_pushes a_Thing_modes a_Thing_is_closed a_Rule_counted a_Straight_init a_Straight_fits a_Straight_cut a_Stopped_init a_Stopped_fits a_Stopped_counted a_Stopped_cut a_stops_of a_Parted_init a_Parted_fits a_Parted_counted a_Parted_cut a_pieces a_scaled a_summed a_put_in a_steered a_misread a_rounded a_wider a_put_late a_late a__law_cell_at a__law_stream a__law_number a__law_parts a__law_straight a__law_rule a__law_scaled a__law_put a__law_put_late a__law_told a__law_right a_law C_BadThing C_TooMany C_Mode C_Thing C_Rule C_Straight C_Stopped C_Parted) 
    {f : Addr} {cdv : Value} {A : Around} {outer : List Env} {s : Shared} {H : Hp} {E : XK} (hr : Room 0 (A.deeper (envOfC "Thing.is_closed" (defScope s_Thing_is_closed) s.heap.objs.size f cdv))) :
    RSs (cxOf (L2.CX P w) P w K mg base N_Thing_is_closed "Thing.is_closed" (defScope s_Thing_is_closed) f cdv A outer s H E) (WF E) (defBody s_Thing_is_closed) (tb_Thing_is_closed K) :=
  (rss_one (rs_ret (re_callB (cd_all rfl) T.b_all (rpa_cons (RE.p (by exact (RN.e (rn_lc sc_Thing_is_closed.nd (ri_seq (re_fld (K := K) (re_var 0))) (blkOk_by (own := [("mode", 1)]) (N := N_Thing_is_closed) (sc := (defScope s_Thing_is_closed)) (by decide +kernel)) (fun _ _ _ _ _ => (rg_name 1 sc_Thing_is_closed.nd)) (fun _ _ _ _ _ => rts_nil) (fun _ _ _ _ _ => (re_cmp (opd_eq hr.units) (RE.p (re_fld (K := K) (re_var 1))) (RE.p (re_op opd_mul (RE.p (re_lst (ra_cons re_int ra_nil))) (RE.p (re_fld (K := K) (re_var 0))))))))))) rpa_nil))))
/-! ### Rule_counted -/
abbrev s_Rule_counted : Stmt := inClass (topS 33) 2
theorem sc_Rule_counted : FnScope N_Rule_counted ["self"] (defScope s_Rule_counted) := ⟨rfl, rfl, rfl, by decide +kernel, rfl, by decide +kernel, by decide +kernel⟩
theorem der_Rule_counted (T : Txt K mg a_is_whole a_own a_own_list a_are_wholes a_is_row a_is_room a_is_table a_Mode_init a_is_mode a_is_push a_Thing_init a_Thing_pushes a_Thing_modes a_Thing_is_closed a_Rule_counted a_Straight_init a_Straight_fits a_Straight_cut a_Stopped_init a_Stopped_fits a_Stopped_counted a_Stopped_cut a_stops_of a_Parted_init a_Parted_fits a_Parted_counted a_Parted_cut a_pieces a_scaled a_summed a_put_in a_steered a_misread a_rounded a_wider a_put_late a_late a__law_cell_at a__law_stream a__law_number a__law_parts a__law_straight a__law_rule a__law_scaled a__law_put a__law_put_late a__law_told a__law_right a_law C_BadThing C_TooMany C_Mode C_Thing C_Rule C_Straight C_Stopped C_Parted) {kk : Nat} (hk : 0 ≤ kk) 
    {f : Addr} {cdv : Value} {A : Around} {outer : List Env} {s : Shared} {H : Hp} {E : XK} (hr : Room kk (A.deeper (envOfC "Rule.counted" (defScope s_Rule_counted) s.heap.objs.size f cdv))) :
    RSs (cxOf (L2.CX P w) P w K mg base N_Rule_counted "Rule.counted" (defScope s_Rule_counted) f cdv A outer s H E) (WF E) (defBody s_Rule_counted) (tb_Rule_counted) :=
  (rss_one (rs_ret re_int))
/-! ### Straight_init -/
abbrev s_Straight_init : Stmt := inClass (topS 34) 0
theorem sc_Straight_init : FnScope N_Straight_init ["self", "numbers", "add", "divisor"] (defScope s_Straight_init) := ⟨rfl, rfl, rfl, by decide +kernel, rfl, by decide +kernel, by decide +kernel⟩
theorem der_Straight_init (T : Txt K mg a_is_whole a_own a_own_list a_are_wholes a_is_row a_is_room a_is_table a_Mode_init a_is_mode a_is_push a_Thing_init a_Thing_pushes a_Thing_modes a_Thing_is_closed a_Rule_counted a_Straight_init a_Straight_fits a_Straight_cut a_Stopped_init a_Stopped_fits a_Stopped_counted a_Stopped_cut a_stops_of a_Parted_init a_Parted_fits a_Parted_counted a_Parted_cut a_pieces a_scaled a_summed a_put_in a_steered a_misread a_rounded a_wider a_put_late a_late a__law_cell_at a__law_stream a__law_number a__law_parts a__law_straight a__law_rule a__law_scaled a__law_put a__law_put_late a__law_told a__law_right a_law C_BadThing C_TooMany C_Mode C_Thing C_Rule C_Straight C_Stopped C_Parted) (D_own_list : FD P w K mg base 1 a_own_list 1 [] g_own_list)
    {f : Addr} {cdv : Value} {A : Around} {outer : List Env} {s : Shared} {H : Hp} {E : XK} (hr : Room 1 (A.deeper (envOfC "Straight.__init__" (defScope s_Straight_init) s.heap.objs.size f cdv))) :
    RSs (cxOf (L2.CX P w) P w K mg base N_Straight_init "Straight.__init__" (defScope s_Straight_init) f cdv A outer s H E) (WF E) (defBody s_Straight_init) (tb_Straight_init K) :=
  (rss_cons (rs_fldS (K := K) 0 (re_call D_own_list (hr.mono (by decide)) T.f_own_list (takes_of rfl rfl rfl rfl) (ra_cons (re_var 1) ra_nil))) (rss_cons (rs_fldS (K := K) 0 (re_var 2)) (rss_one (rs_fldS (K := K) 0 (re_var 3)))))
/-! ### Straight_fits -/
abbrev s_Straight_fits : Stmt := inClass (topS 34) 2
theorem sc_Straight_fits : FnScope N_Straight_fits ["self", "many"] (defScope s_Straight_fits) := ⟨rfl, rfl, rfl, by decide +kernel, rfl, by decide +kernel, by decide +kernel⟩
theorem der_Straight_fits (T : Txt K mg a_is_whole a_own a_own_list a_are_wholes a_is_row a_is_room a_is_table a_Mode_init a_is_mode a_is_push a_Thing_init a_Thing_pushes a_Thing_modes a_Thing_is_closed a_Rule_counted a_Straight_init a_Straight_fits a_Straight_cut a_Stopped_init a_Stopped_fits a_Stopped_counted a_Stopped_cut a_stops_of a_Parted_init a_Parted_fits a_Parted_counted a_Parted_cut a_pieces a_scaled a_summed a_put_in a_steered a_misread a_rounded a_wider a_put_late a_late a__law_cell_at a__law_stream a__law_number a__law_parts a__law_straight a__law_rule a__law_scaled a__law_put a__law_put_late a__law_told a__law_right a_law C_BadThing C_TooMany C_Mode C_Thing C_Rule C_Straight C_Stopped C_Parted) {kk : Nat} (hk : 2 ≤ kk)  (D_is_whole : FD P w K mg base 1 a_is_whole 1 [] g_is_whole) (D_are_wholes : FD P w K mg base 2 a_are_wholes 2 [] g_are_wholes)
    {f : Addr} {cdv : Value} {A : Around} {outer : List Env} {s : Shared} {H : Hp} {E : XK} (hr : Room kk (A.deeper (envOfC "Straight.fits" (defScope s_Straight_fits) s.heap.objs.size f cdv))) :
    RSs (cxOf (L2.CX P w) P w K mg base N_Straight_fits "Straight.fits" (defScope s_Straight_fits) f cdv A outer s H E) (WF E) (defBody s_Straight_fits) (tb_Straight_fits K) :=
  (rss_one (rs_ret (re_and (RE.p (re_call D_are_wholes (hr.mono (Nat.le_trans (by decide) hk)) T.f_are_wholes (takes_of rfl rfl rfl rfl) (ra_cons (re_fld (K := K) (re_var 0)) (ra_cons (re_var 1) ra_nil)))) (re_and (RE.p (re_call D_is_whole (hr.mono (Nat.le_trans (by decide) hk)) T.f_is_whole (takes_of rfl rfl rfl rfl) (ra_cons (re_fld (K := K) (re_var 0)) ra_nil))) (re_and (RE.p (re_call D_is_whole (hr.mono (Nat.le_trans (by decide) hk)) T.f_is_whole (takes_of rfl rfl rfl rfl) (ra_cons (re_fld (K := K) (re_var 0)) ra_nil))) (re_one (re_cmp opd_ge (RE.p (re_fld (K := K) (re_var 0))) (RE.p re_int))))))))
/-! ### Straight_cut -/
abbrev s_Straight_cut : Stmt := inClass (topS 34) 3
theorem sc_Straight_cut : FnScope N_Straight_cut ["self", "many"] (defScope s_Straight_cut) := ⟨rfl, rfl, rfl, by decide +kernel, rfl, by decide +kernel, by decide +kernel⟩
theorem der_Straight_cut (T : Txt K mg a_is_whole a_own a_own_list a_are_wholes a_is_row a_is_room a_is_table a_Mode_init a_is_mode a_is_push a_Thing_init a_Thing_pushes a_Thing_modes a_Thing_is_closed a_Rule_counted a_Straight_init a_Straight_fits a_Straight_cut a_Stopped_init a_Stopped_fits a_Stopped_counted a_Stopped_cut a_stops_of a_Parted_init a_Parted_fits a_Parted_counted a_Parted_cut a_pieces a_scaled a_summed a_put_in a_steered a_misread a_rounded a_wider a_put_late a_late a__law_cell_at a__law_stream a__law_number a__law_parts a__law_straight a__law_rule a__law_scaled a__law_put a__law_put_late a__law_told a__law_right a_law C_BadThing C_TooMany C_Mode C_Thing C_Rule C_Straight C_Stopped C_Parted) {kk : Nat} (hk : 4 ≤ kk)  (I_Straight : FI P w K mg base 2 C_Straight 4 [] g_Straight_init)
    {f : Addr} {cdv : Value} {A : Around} {outer : List Env} {s : Shared} {H : Hp} {E : XK} (hr : Room kk (A.deeper (envOfC "Straight.cut" (defScope s_Straight_cut) s.heap.objs.size f cdv))) :
    RSs (cxOf (L2.CX P w) P w K mg base N_Straight_cut "Straight.cut" (defScope s_Straight_cut) f cdv A outer s H E) (WF E) (defBody s_Straight_cut) (tb_Straight_cut K C_Straight) :=
  (rss_one (rs_ret (re_lst (ra_cons (re_tup (ra_cons (re_lst ra_nil) (ra_cons (re_make I_Straight (hr.mono (Nat.le_trans (by decide) hk)) T.c_Straight (takes_of rfl rfl rfl rfl) (ra_cons (re_fld (K := K) (re_var 0)) (ra_cons (re_fld (K := K) (re_var 0)) (ra_cons (re_fld (K := K) (re_var 0)) ra_nil)))) ra_nil))) ra_nil))))
/-! ### Stopped_init -/
abbrev s_Stopped_init : Stmt := inClass (topS 35) 0
theorem sc_Stopped_init : FnScope N_Stopped_init ["self", "rule", "low", "high"] (defScope s_Stopped_init) := ⟨rfl, rfl, rfl, by decide +kernel, rfl, by decide +kernel, by decide +kernel⟩
theorem der_Stopped_init (T : Txt K mg a_is_whole a_own a_own_list a_are_wholes a_is_row a_is_room a_is_table a_Mode_init a_is_mode a_is_push a_Thing_init a_Thing_pushes a_Thing_modes a_Thing_is_closed a_Rule_counted a_Straight_init a_Straight_fits a_Straight_cut a_Stopped_init a_Stopped_fits a_Stopped_counted a_Stopped_cut a_stops_of a_Parted_init a_Parted_fits a_Parted_counted a_Parted_cut a_pieces a_scaled a_summed a_put_in a_steered a_misread a_rounded a_wider a_put_late a_late a__law_cell_at a__law_stream a__law_number a__law_parts a__law_straight a__law_rule a__law_scaled a__law_put a__law_put_late a__law_told a__law_right a_law C_BadThing C_TooMany C_Mode C_Thing C_Rule C_Straight C_Stopped C_Parted) 
    {f : Addr} {cdv : Value} {A : Around} {outer : List Env} {s : Shared} {H : Hp} {E : XK} (hr : Room 0 (A.deeper (envOfC "Stopped.__init__" (defScope s_Stopped_init) s.heap.objs.size f cdv))) :
    RSs (cxOf (L2.CX P w) P w K mg base N_Stopped_init "Stopped.__init__" (defScope s_Stopped_init) f cdv A outer s H E) (WF E) (defBody s_Stopped_init) (tb_Stopped_init K) :=
  (rss_cons (rs_fldS (K := K) 0 (re_var 1)) (rss_cons (rs_fldS (K := K) 0 (re_var 2)) (rss_one (rs_fldS (K := K) 0 (re_var 3)))))
/-! ### Stopped_fits -/
abbrev s_Stopped_fits : Stmt := inClass (topS 35) 2
theorem sc_Stopped_fits : FnScope N_Stopped_fits ["self", "many"] (defScope s_Stopped_fits) := ⟨rfl, rfl, rfl, by decide +kernel, rfl, by decide +kernel, by decide +kernel⟩
theorem der_Stopped_fits (T : Txt K mg a_is_whole a_own a_own_list a_are_wholes a_is_row a_is_room a_is_table a_Mode_init a_is_mode a_is_push a_Thing_init a_Thing_pushes a_Thing_modes a_Thing_is_closed a_Rule_counted a_Straight_init a_Straight_fits a_Straight_cut a_Stopped_init a_Stopped_fits a_Stopped_counted a_Stopped_cut a_stops_of a_Parted_init a_Parted_fits a_Parted_counted a_Parted_cut a_pieces a_scaled a_summed a_put_in a_steered a_misread a_rounded a_wider a_put_late a_late a__law_cell_at a__law_stream a__law_number a__law_parts a__law_straight a__law_rule a__law_scaled a__law_put a__law_put_late a__law_told a__law_right a_law C_BadThing C_TooMany C_Mode C_Thing C_Rule C_Straight C_Stopped C_Parted) {kk : Nat} {GG_Straight_fits : DF} {GG_Stopped_fits : DF} {GG_Parted_fits : DF} (hk : 2 ≤ kk) (M_Straight_fits : FN P w K mg base kk a_Straight_fits 2 GG_Straight_fits) (M_Stopped_fits : FN P w K mg base kk a_Stopped_fits 2 GG_Stopped_fits) (M_Parted_fits : FN P w K mg base kk a_Parted_fits 2 GG_Parted_fits) (D_is_whole : FD P w K mg base 1 a_is_whole 1 [] g_is_whole)
    {f : Addr} {cdv : Value} {A : Around} {outer : List Env} {s : Shared} {H : Hp} {E : XK} (hr : Room kk (A.deeper (envOfC "Stopped.fits" (defScope s_Stopped_fits) s.heap.objs.size f cdv))) :
    RSs (cxOf (L2.CX P w) P w K mg base N_Stopped_fits "Stopped.fits" (defScope s_Stopped_fits) f cdv A outer s H E) (WF E) (defBody s_Stopped_fits) (tb_Stopped_fits K C_Rule C_Straight C_Stopped C_Parted GG_Straight_fits GG_Stopped_fits GG_Parted_fits) :=
  (rss_cons (rs_if (RW.toT (rw_or (rt_not (rt_val (RE.p (re_call D_is_whole (hr.mono (Nat.le_trans (by decide) hk)) T.f_is_whole (takes_of rfl rfl rfl rfl) (ra_cons (re_fld (K := K) (re_var 0)) ra_nil))))) (rw_or (rt_not (rt_val (RE.p (re_call D_is_whole (hr.mono (Nat.le_trans (by decide) hk)) T.f_is_whole (takes_of rfl rfl rfl rfl) (ra_cons (re_fld (K := K) (re_var 0)) ra_nil))))) (rw_or1 (rt_cmp opd_gt (RE.p (re_fld (K := K) (re_var 0))) (RE.p (re_fld (K := K) (re_var 0)))))))) (rss_one (rs_ret re_bl)) rss_nil) (rss_one (rs_ret (re_and (RE.p (re_callB (cd_isi (K := K)) T.b_isinstance (rpa_cons (RE.p (re_fld (K := K) (re_var 0))) (rpa_cons (RE.p (re_glob T.c_Rule rfl)) rpa_nil)))) (re_one (RE.or (RE.or (re_meth (re_fld (K := K) (re_var 0)) T.l_Straight T.m_Straight_fits M_Straight_fits (hr.mono (Nat.le_refl _)) (takes_of rfl rfl rfl rfl) (ra_cons (re_var 1) ra_nil)) (re_meth (re_fld (K := K) (re_var 0)) T.l_Stopped T.m_Stopped_fits M_Stopped_fits (hr.mono (Nat.le_refl _)) (takes_of rfl rfl rfl rfl) (ra_cons (re_var 1) ra_nil))) (re_meth (re_fld (K := K) (re_var 0)) T.l_Parted T.m_Parted_fits M_Parted_fits (hr.mono (Nat.le_refl _)) (takes_of rfl rfl rfl rfl) (ra_cons (re_var 1) ra_nil))))))))
/-! ### Stopped_counted -/
abbrev s_Stopped_counted : Stmt := inClass (topS 35) 3
theorem sc_Stopped_counted : FnScope N_Stopped_counted ["self"] (defScope s_Stopped_counted) := ⟨rfl, rfl, rfl, by decide +kernel, rfl, by decide +kernel, by decide +kernel⟩
theorem der_Stopped_counted (T : Txt K mg a_is_whole a_own a_own_list a_are_wholes a_is_row a_is_room a_is_table a_Mode_init a_is_mode a_is_push a_Thing_init a_Thing_pushes a_Thing_modes a_Thing_is_closed a_Rule_counted a_Straight_init a_Straight_fits a_Straight_cut a_Stopped_init a_Stopped_fits a_Stopped_counted a_Stopped_cut a_stops_of a_Parted_init a_Parted_fits a_Parted_counted a_Parted_cut a_pieces a_scaled a_summed a_put_in a_steered a_misread a_rounded a_wider a_put_late a_late a__law_cell_at a__law_stream a__law_number a__law_parts a__law_straight a__law_rule a__law_scaled a__law_put a__law_put_late a__law_told a__law_right a_law C_BadThing C_TooMany C_Mode C_Thing C_Rule C_Straight C_Stopped C_Parted) {kk : Nat} {GG_Rule_counted : DF} {GG_Stopped_counted : DF} {GG_Parted_counted : DF} (hk : 0 ≤ kk) (M_Rule_counted : FN P w K mg base kk a_Rule_counted 1 GG_Rule_counted) (M_Stopped_counted : FN P w K mg base kk a_Stopped_counted 1 GG_Stopped_counted) (M_Parted_counted : FN P w K mg base kk a_Parted_counted 1 GG_Parted_counted)
    {f : Addr} {cdv : Value} {A : Around} {outer : List Env} {s : Shared} {H : Hp} {E : XK} (hr : Room kk (A.deeper (envOfC "Stopped.counted" (defScope s_Stopped_counted) s.heap.objs.size f cdv))) :
    RSs (cxOf (L2.CX P w) P w K mg base N_Stopped_counted "Stopped.counted" (defScope s_Stopped_counted) f cdv A outer s H E) (WF E) (defBody s_Stopped_counted) (tb_Stopped_counted K C_Straight C_Stopped C_Parted GG_Rule_counted GG_Stopped_counted GG_Parted_counted) :=
  (rss_one (rs_ret (re_op opd_mul (RE.p re_int) (RE.p (RE.or (RE.or (re_meth0 (re_fld (K := K) (re_var 0)) T.l_Straight T.m_Straight_counted M_Rule_counted (hr.mono (Nat.le_refl _)) (takes_of rfl rfl rfl rfl)) (re_meth0 (re_fld (K := K) (re_var 0)) T.l_Stopped T.m_Stopped_counted M_Stopped_counted (hr.mono (Nat.le_refl _)) (takes_of rfl rfl rfl rfl))) (re_meth0 (re_fld (K := K) (re_var 0)) T.l_Parted T.m_Parted_counted M_Parted_counted (hr.mono (Nat.le_refl _)) (takes_of rfl rfl rfl rfl)))))))
/-! ### Stopped_cut -/
abbrev s_Stopped_cut : Stmt := inClass (topS 35) 4
theorem sc_Stopped_cut : FnScope N_Stopped_cut ["self", "many"] (defScope s_Stopped_cut) := ⟨rfl, rfl, rfl, by decide +kernel, rfl, by decide +kernel, by decide +kernel⟩
theorem der_Stopped_cut (T : Txt K mg a_is_whole a_own a_own_list a_are_wholes a_is_row a_is_room a_is_table a_Mode_init a_is_mode a_is_push a_Thing_init a_Thing_pushes a_Thing_modes a_Thing_is_closed a_Rule_counted a_Straight_init a_Straight_fits a_Straight_cut a_Stopped_init a_Stopped_fits a_Stopped_counted a_Stopped_cut a_stops_of a_Parted_init a_Parted_fits a_Parted_counted a_Parted_cut a_pieces a_scaled a_summed a_put_in a_steered a_misread a_rounded a_wider a_put_late a_late a__law_cell_at a__law_stream a__law_number a__law_parts a__law_straight a__law_rule a__law_scaled a__law_put a__law_put_late a__law_told a__law_right a_law C_BadThing C_TooMany C_Mode C_Thing C_Rule C_Straight C_Stopped C_Parted) {kk : Nat} {GG_Straight_cut : DF} {GG_Stopped_cut : DF} {GG_Parted_cut : DF} (hk : 4 ≤ kk) (M_Straight_cut : FN P w K mg base kk a_Straight_cut 2 GG_Straight_cut) (M_Stopped_cut : FN P w K mg base kk a_Stopped_cut 2 GG_Stopped_cut) (M_Parted_cut : FN P w K mg base kk a_Parted_cut 2 GG_Parted_cut) (D_stops_of : FD P w K mg base 4 a_stops_of 3 [] (g_stops_of C_Straight))
    {f : Addr} {cdv : Value} {A : Around} {outer : List Env} {s : Shared} {H : Hp} {E : XK} (hr : Room kk (A.deeper (envOfC "Stopped.cut" (defScope s_Stopped_cut) s.heap.objs.size f cdv))) :
    RSs (cxOf (L2.CX P w) P w K mg base N_Stopped_cut "Stopped.cut" (defScope s_Stopped_cut) f cdv A outer s H E) (WF E) (defBody s_Stopped_cut) (tb_Stopped_cut K C_Straight C_Stopped C_Parted GG_Straight_cut GG_Stopped_cut GG_Parted_cut) :=
  (rss_cons (rs_own 2 sc_Stopped_cut.nd (rn_lst ra_nil)) (rss_cons (rs_for (passes_of rfl) (ri_seq (RE.or (RE.or (re_meth (re_fld (K := K) (re_var 0)) T.l_Straight T.m_Straight_cut M_Straight_cut (hr.mono (Nat.le_refl _)) (takes_of rfl rfl rfl rfl) (ra_cons (re_var 1) ra_nil)) (re_meth (re_fld (K := K) (re_var 0)) T.l_Stopped T.m_Stopped_cut M_Stopped_cut (hr.mono (Nat.le_refl _)) (takes_of rfl rfl rfl rfl) (ra_cons (re_var 1) ra_nil))) (re_meth (re_fld (K := K) (re_var 0)) T.l_Parted T.m_Parted_cut M_Parted_cut (hr.mono (Nat.le_refl _)) (takes_of rfl rfl rfl rfl) (ra_cons (re_var 1) ra_nil)))) (rg_tup (rgs_cons (rg_name 3 sc_Stopped_cut.nd) (rgs_cons (rg_name 4 sc_Stopped_cut.nd) rgs_nil))) (rss_one (rs_for (passes_of rfl) (ri_seq (re_call D_stops_of (hr.mono (Nat.le_trans (by decide) hk)) T.f_stops_of (takes_of rfl rfl rfl rfl) (ra_cons (re_var 4) (ra_cons (re_fld (K := K) (re_var 0)) (ra_cons (re_fld (K := K) (re_var 0)) ra_nil))))) (rg_tup (rgs_cons (rg_name 5 sc_Stopped_cut.nd) (rgs_cons (rg_name 6 sc_Stopped_cut.nd) rgs_nil))) (rss_one (rs_app 2 (re_tup (ra_cons (re_op opd_add (rp_var 3) (rp_var 5)) (ra_cons (re_var 6) ra_nil)))))))) (rss_frz 2 (rss_one (rs_ret (re_var 2))))))
/-! ### stops_of -/
abbrev s_stops_of : Stmt := topS 36
theorem sc_stops_of : FnScope N_stops_of ["straight", "low", "high"] (defScope s_stops_of) := ⟨rfl, rfl, rfl, by decide +kernel, rfl, by decide +kernel, by decide +kernel⟩
theorem der_stops_of (T : Txt K mg a_is_whole a_own a_own_list a_are_wholes a_is_row a_is_room a_is_table a_Mode_init a_is_mode a_is_push a_Thing_init a_Thing_pushes a_Thing_modes a_Thing_is_closed a_Rule_counted a_Straight_init a_Straight_fits a_Straight_cut a_Stopped_init a_Stopped_fits a_Stopped_counted a_Stopped_cut a_stops_of a_Parted_init a_Parted_fits a_Parted_counted a_Parted_cut a_pieces a_scaled a_summed a_put_in a_steered a_misread a_rounded a_wider a_put_late a_late a__law_cell_at a__law_stream a__law_number a__law_parts a__law_straight a__law_rule a__law_scaled a__law_put a__law_put_late a__law_told a__law_right a_law C_BadThing C_TooMany C_Mode C_Thing C_Rule C_Straight C_Stopped C_Parted) (I_Straight_d : FI P w K mg base 2 C_Straight 4 [.int 1] g_Straight_init)
    {f : Addr} {cdv : Value} {A : Around} {outer : List Env} {s : Shared} {H : Hp} {E : XK} (hr : Room 3 (A.deeper (envOfC "stops_of" (defScope s_stops_of) s.heap.objs.size f cdv))) :
    RSs (cxOf (L2.CX P w) P w K mg base N_stops_of "stops_of" (defScope s_stops_of) f cdv A outer s H E) (WF E) (defBody s_stops_of) (tb_stops_of K C_Straight) :=
  (rss_cons (rs_set 3 sc_stops_of.nd (re_fld (K := K) (re_var 0))) (rss_cons (rs_setLc 4 sc_stops_of.nd (ri_seq (re_var 3)) (blkOk_by (own := [("number", 5)]) (N := N_stops_of) (sc := (defScope s_stops_of)) (by decide +kernel)) (fun _ _ _ _ _ => (rg_name 5 sc_stops_of.nd)) (fun _ _ _ _ _ => rts_nil) (fun _ _ _ _ _ => (re_op opd_sub (RE.p re_int) (rp_var 5))) (sw_true rfl rfl rfl (by decide +kernel))) (rss_cons (rs_setLc 6 sc_stops_of.nd (ri_seq (re_var 3)) (blkOk_by (own := [("number", 5)]) (N := N_stops_of) (sc := (defScope s_stops_of)) (by decide +kernel)) (fun _ _ _ _ _ => (rg_name 5 sc_stops_of.nd)) (fun _ _ _ _ _ => rts_nil) (fun _ _ _ _ _ => re_int) (sw_true rfl rfl rfl (by decide +kernel))) (rss_cons (rs_set 7 sc_stops_of.nd (re_op opd_sub (RE.p (re_op opd_mul (RE.p (re_fld (K := K) (re_var 0))) (rp_var 1))) (RE.p (re_fld (K := K) (re_var 0))))) (rss_cons (rs_set 8 sc_stops_of.nd (re_op opd_sub (RE.p (re_op opd_mul (RE.p (re_fld (K := K) (re_var 0))) (rp_var 2))) (RE.p (re_fld (K := K) (re_var 0))))) (rss_cons (rs_own 9 sc_stops_of.nd (rn_lst (ra_cons (re_tup (ra_cons (re_lst (ra_cons (re_callTy cd_tuple T.b_tuple (rpa_cons (RE.p (re_op opd_add (rp_var 3) (RE.p (re_lst (ra_cons (re_var 7) ra_nil))))) rpa_nil)) ra_nil)) (ra_cons (re_make I_Straight_d (hr.mono (by decide)) T.c_Straight (takes_of rfl rfl rfl rfl) (ra_cons (re_var 6) (ra_cons (re_var 1) ra_nil))) ra_nil))) ra_nil))) (rss_cons (rs_app 9 (re_tup (ra_cons (re_lst (ra_cons (re_callTy cd_tuple T.b_tuple (rpa_cons (RE.p (re_op opd_add (rp_var 4) (RE.p (re_lst (ra_cons (re_op opd_sub (RE.p re_int) (rp_var 7)) ra_nil))))) rpa_nil)) (ra_cons (re_callTy cd_tuple T.b_tuple (rpa_cons (RE.p (re_op opd_add (rp_var 3) (RE.p (re_lst (ra_cons (re_var 8) ra_nil))))) rpa_nil)) ra_nil))) (ra_cons (re_var 0) ra_nil)))) (rss_cons (rs_app 9 (re_tup (ra_cons (re_lst (ra_cons (re_callTy cd_tuple T.b_tuple (rpa_cons (RE.p (re_op opd_add (rp_var 4) (RE.p (re_lst (ra_cons (re_op opd_sub (RE.p re_int) (rp_var 8)) ra_nil))))) rpa_nil)) ra_nil)) (ra_cons (re_make I_Straight_d (hr.mono (by decide)) T.c_Straight (takes_of rfl rfl rfl rfl) (ra_cons (re_var 6) (ra_cons (re_var 2) ra_nil))) ra_nil)))) (rss_frz 9 (rss_one (rs_ret (re_var 9))))))))))))
/-! ### Parted_init -/
abbrev s_Parted_init : Stmt := inClass (topS 37) 0
theorem sc_Parted_init : FnScope N_Parted_init ["self", "row", "rule", "other"] (defScope s_Parted_init) := ⟨rfl, rfl, rfl, by decide +kernel, rfl, by decide +kernel, by decide +kernel⟩
theorem der_Parted_init (T : Txt K mg a_is_whole a_own a_own_list a_are_wholes a_is_row a_is_room a_is_table a_Mode_init a_is_mode a_is_push a_Thing_init a_Thing_pushes a_Thing_modes a_Thing_is_closed a_Rule_counted a_Straight_init a_Straight_fits a_Straight_cut a_Stopped_init a_Stopped_fits a_Stopped_counted a_Stopped_cut a_stops_of a_Parted_init a_Parted_fits a_Parted_counted a_Parted_cut a_pieces a_scaled a_summed a_put_in a_steered a_misread a_rounded a_wider a_put_late a_late a__law_cell_at a__law_stream a__law_number a__law_parts a__law_straight a__law_rule a__law_scaled a__law_put a__law_put_late a__law_told a__law_right a_law C_BadThing C_TooMany C_Mode C_Thing C_Rule C_Straight C_Stopped C_Parted) 
    {f : Addr} {cdv : Value} {A : Around} {outer : List Env} {s : Shared} {H : Hp} {E : XK} (hr : Room 0 (A.deeper (envOfC "Parted.__init__" (defScope s_Parted_init) s.heap.objs.size f cdv))) :
    RSs (cxOf (L2.CX P w) P w K mg base N_Parted_init "Parted.__init__" (defScope s_Parted_init) f cdv A outer s H E) (WF E) (defBody s_Parted_init) (tb_Parted_init K) :=
  (rss_cons (rs_fldS (K := K) 0 (re_var 1)) (rss_cons (rs_fldS (K := K) 0 (re_var 2)) (rss_one (rs_fldS (K := K) 0 (re_var 3)))))
/-! ### Parted_fits -/
abbrev s_Parted_fits : Stmt := inClass (topS 37) 2
theorem sc_Parted_fits : FnScope N_Parted_fits ["self", "many"] (defScope s_Parted_fits) := ⟨rfl, rfl, rfl, by decide +kernel, rfl, by decide +kernel, by decide +kernel⟩
theorem der_Parted_fits (T : Txt K mg a_is_whole a_own a_own_list a_are_wholes a_is_row a_is_room a_is_table a_Mode_init a_is_mode a_is_push a_Thing_init a_Thing_pushes a_Thing_modes a_Thing_is_closed a_Rule_counted a_Straight_init a_Straight_fits a_Straight_cut a_Stopped_init a_Stopped_fits a_Stopped_counted a_Stopped_cut a_stops_of a_Parted_init a_Parted_fits a_Parted_counted a_Parted_cut a_pieces a_scaled a_summed a_put_in a_steered a_misread a_rounded a_wider a_put_late a_late a__law_cell_at a__law_stream a__law_number a__law_parts a__law_straight a__law_rule a__law_scaled a__law_put a__law_put_late a__law_told a__law_right a_law C_BadThing C_TooMany C_Mode C_Thing C_Rule C_Straight C_Stopped C_Parted) {kk : Nat} {GG_Straight_fits : DF} {GG_Stopped_fits : DF} {GG_Parted_fits : DF} (hk : 2 ≤ kk) (M_Straight_fits : FN P w K mg base kk a_Straight_fits 2 GG_Straight_fits) (M_Stopped_fits : FN P w K mg base kk a_Stopped_fits 2 GG_Stopped_fits) (M_Parted_fits : FN P w K mg base kk a_Parted_fits 2 GG_Parted_fits) (D_is_row : FD P w K mg base 2 a_is_row 2 [] g_is_row)
    {f : Addr} {cdv : Value} {A : Around} {outer : List Env} {s : Shared} {H : Hp} {E : XK} (hr : Room kk (A.deeper (envOfC "Parted.fits" (defScope s_Parted_fits) s.heap.objs.size f cdv))) :
    RSs (cxOf (L2.CX P w) P w K mg base N_Parted_fits "Parted.fits" (defScope s_Parted_fits) f cdv A outer s H E) (WF E) (defBody s_Parted_fits) (tb_Parted_fits K C_Rule C_Straight C_Stopped C_Parted GG_Straight_fits GG_Stopped_fits GG_Parted_fits) :=
  (rss_cons (rs_if (RW.toT (rw_or (rt_not (rt_val (RE.p (re_call D_is_row (hr.mono (Nat.le_trans (by decide) hk)) T.f_is_row (takes_of rfl rfl rfl rfl) (ra_cons (re_fld (K := K) (re_var 0)) (ra_cons (re_var 1) ra_nil)))))) (rw_or (rt_not (rt_val (RE.p (re_callB (cd_isi (K := K)) T.b_isinstance (rpa_cons (RE.p (re_fld (K := K) (re_var 0))) (rpa_cons (RE.p (re_glob T.c_Rule rfl)) rpa_nil)))))) (rw_or1 (rt_not (rt_val (RE.p (re_callB (cd_isi (K := K)) T.b_isinstance (rpa_cons (RE.p (re_fld (K := K) (re_var 0))) (rpa_cons (RE.p (re_glob T.c_Rule rfl)) rpa_nil)))))))))) (rss_one (rs_ret re_bl)) rss_nil) (rss_one (rs_ret (re_and (RE.p (RE.or (RE.or (re_meth (re_fld (K := K) (re_var 0)) T.l_Straight T.m_Straight_fits M_Straight_fits (hr.mono (Nat.le_refl _)) (takes_of rfl rfl rfl rfl) (ra_cons (re_var 1) ra_nil)) (re_meth (re_fld (K := K) (re_var 0)) T.l_Stopped T.m_Stopped_fits M_Stopped_fits (hr.mono (Nat.le_refl _)) (takes_of rfl rfl rfl rfl) (ra_cons (re_var 1) ra_nil))) (re_meth (re_fld (K := K) (re_var 0)) T.l_Parted T.m_Parted_fits M_Parted_fits (hr.mono (Nat.le_refl _)) (takes_of rfl rfl rfl rfl) (ra_cons (re_var 1) ra_nil)))) (re_one (RE.or (RE.or (re_meth (re_fld (K := K) (re_var 0)) T.l_Straight T.m_Straight_fits M_Straight_fits (hr.mono (Nat.le_refl _)) (takes_of rfl rfl rfl rfl) (ra_cons (re_var 1) ra_nil)) (re_meth (re_fld (K := K) (re_var 0)) T.l_Stopped T.m_Stopped_fits M_Stopped_fits (hr.mono (Nat.le_refl _)) (takes_of rfl rfl rfl rfl) (ra_cons (re_var 1) ra_nil))) (re_meth (re_fld (K := K) (re_var 0)) T.l_Parted T.m_Parted_fits M_Parted_fits (hr.mono (Nat.le_refl _)) (takes_of rfl rfl rfl rfl) (ra_cons (re_var 1) ra_nil))))))))
/-! ### Parted_counted -/
abbrev s_Parted_counted : Stmt := inClass (topS 37) 3
theorem sc_Parted_counted : FnScope N_Parted_counted ["self"] (defScope s_Parted_counted) := ⟨rfl, rfl, rfl, by decide +kernel, rfl, by decide +kernel, by decide +kernel⟩
theorem der_Parted_counted (T : Txt K mg a_is_whole a_own a_own_list a_are_wholes a_is_row a_is_room a_is_table a_Mode_init a_is_mode a_is_push a_Thing_init a_Thing_pushes a_Thing_modes a_Thing_is_closed a_Rule_counted a_Straight_init a_Straight_fits a_Straight_cut a_Stopped_init a_Stopped_fits a_Stopped_counted a_Stopped_cut a_stops_of a_Parted_init a_Parted_fits a_Parted_counted a_Parted_cut a_pieces a_scaled a_summed a_put_in a_steered a_misread a_rounded a_wider a_put_late a_late a__law_cell_at a__law_stream a__law_number a__law_parts a__law_straight a__law_rule a__law_scaled a__law_put a__law_put_late a__law_told a__law_right a_law C_BadThing C_TooMany C_Mode C_Thing C_Rule C_Straight C_Stopped C_Parted) {kk : Nat} {GG_Rule_counted : DF} {GG_Stopped_counted : DF} {GG_Parted_counted : DF} (hk : 0 ≤ kk) (M_Rule_counted : FN P w K mg base kk a_Rule_counted 1 GG_Rule_counted) (M_Stopped_counted : FN P w K mg base kk a_Stopped_counted 1 GG_Stopped_counted) (M_Parted_counted : FN P w K mg base kk a_Parted_counted 1 GG_Parted_counted)
    {f : Addr} {cdv : Value} {A : Around} {outer : List Env} {s : Shared} {H : Hp} {E : XK} (hr : Room kk (A.deeper (envOfC "Parted.counted" (defScope s_Parted_counted) s.heap.objs.size f cdv))) :
    RSs (cxOf (L2.CX P w) P w K mg base N_Parted_counted "Parted.counted" (defScope s_Parted_counted) f cdv A outer s H E) (WF E) (defBody s_Parted_counted) (tb_Parted_counted K C_Straight C_Stopped C_Parted GG_Rule_counted GG_Stopped_counted GG_Parted_counted) :=
  (rss_one (rs_ret (re_op opd_add (RE.p (RE.or (RE.or (re_meth0 (re_fld (K := K) (re_var 0)) T.l_Straight T.m_Straight_counted M_Rule_counted (hr.mono (Nat.le_refl _)) (takes_of rfl rfl rfl rfl)) (re_meth0 (re_fld (K := K) (re_var 0)) T.l_Stopped T.m_Stopped_counted M_Stopped_counted (hr.mono (Nat.le_refl _)) (takes_of rfl rfl rfl rfl))) (re_meth0 (re_fld (K := K) (re_var 0)) T.l_Parted T.m_Parted_counted M_Parted_counted (hr.mono (Nat.le_refl _)) (takes_of rfl rfl rfl rfl)))) (RE.p (RE.or (RE.or (re_meth0 (re_fld (K := K) (re_var 0)) T.l_Straight T.m_Straight_counted M_Rule_counted (hr.mono (Nat.le_refl _)) (takes_of rfl rfl rfl rfl)) (re_meth0 (re_fld (K := K) (re_var 0)) T.l_Stopped T.m_Stopped_counted M_Stopped_counted (hr.mono (Nat.le_refl _)) (takes_of rfl rfl rfl rfl))) (re_meth0 (re_fld (K := K) (re_var 0)) T.l_Parted T.m_Parted_counted M_Parted_counted (hr.mono (Nat.le_refl _)) (takes_of rfl rfl rfl rfl)))))))
/-! ### Parted_cut -/
abbrev s_Parted_cut : Stmt := inClass (topS 37) 4
theorem sc_Parted_cut : FnScope N_Parted_cut ["self", "many"] (defScope s_Parted_cut) := ⟨rfl, rfl, rfl, by decide +kernel, rfl, by decide +kernel, by decide +kernel⟩
theorem der_Parted_cut (T : Txt K mg a_is_whole a_own a_own_list a_are_wholes a_is_row a_is_room a_is_table a_Mode_init a_is_mode a_is_push a_Thing_init a_Thing_pushes a_Thing_modes a_Thing_is_closed a_Rule_counted a_Straight_init a_Straight_fits a_Straight_cut a_Stopped_init a_Stopped_fits a_Stopped_counted a_Stopped_cut a_stops_of a_Parted_init a_Parted_fits a_Parted_counted a_Parted_cut a_pieces a_scaled a_summed a_put_in a_steered a_misread a_rounded a_wider a_put_late a_late a__law_cell_at a__law_stream a__law_number a__law_parts a__law_straight a__law_rule a__law_scaled a__law_put a__law_put_late a__law_told a__law_right a_law C_BadThing C_TooMany C_Mode C_Thing C_Rule C_Straight C_Stopped C_Parted) {kk : Nat} {GG_Straight_cut : DF} {GG_Stopped_cut : DF} {GG_Parted_cut : DF} (hk : 4 ≤ kk) (M_Straight_cut : FN P w K mg base kk a_Straight_cut 2 GG_Straight_cut) (M_Stopped_cut : FN P w K mg base kk a_Stopped_cut 2 GG_Stopped_cut) (M_Parted_cut : FN P w K mg base kk a_Parted_cut 2 GG_Parted_cut)
    {f : Addr} {cdv : Value} {A : Around} {outer : List Env} {s : Shared} {H : Hp} {E : XK} (hr : Room kk (A.deeper (envOfC "Parted.cut" (defScope s_Parted_cut) s.heap.objs.size f cdv))) :
    RSs (cxOf (L2.CX P w) P w K mg base N_Parted_cut "Parted.cut" (defScope s_Parted_cut) f cdv A outer s H E) (WF E) (defBody s_Parted_cut) (tb_Parted_cut K C_Straight C_Stopped C_Parted GG_Straight_cut GG_Stopped_cut GG_Parted_cut) :=
  (rss_cons (rs_set 2 sc_Parted_cut.nd (re_callTy cd_tuple T.b_tuple (rpa_cons (RE.p (by exact (RN.e (rn_lc sc_Parted_cut.nd (ri_seq (re_fld (K := K) (re_var 0))) (blkOk_by (own := [("number", 3)]) (N := N_Parted_cut) (sc := (defScope s_Parted_cut)) (by decide +kernel)) (fun _ _ _ _ _ => (rg_name 3 sc_Parted_cut.nd)) (fun _ _ _ _ _ => rts_nil) (fun _ _ _ _ _ => (re_op opd_sub (RE.p re_int) (rp_var 3))))))) rpa_nil))) (rss_cons (rs_setLc 4 sc_Parted_cut.nd (ri_seq (RE.or (RE.or (re_meth (re_fld (K := K) (re_var 0)) T.l_Straight T.m_Straight_cut M_Straight_cut (hr.mono (Nat.le_refl _)) (takes_of rfl rfl rfl rfl) (ra_cons (re_var 1) ra_nil)) (re_meth (re_fld (K := K) (re_var 0)) T.l_Stopped T.m_Stopped_cut M_Stopped_cut (hr.mono (Nat.le_refl _)) (takes_of rfl rfl rfl rfl) (ra_cons (re_var 1) ra_nil))) (re_meth (re_fld (K := K) (re_var 0)) T.l_Parted T.m_Parted_cut M_Parted_cut (hr.mono (Nat.le_refl _)) (takes_of rfl rfl rfl rfl) (ra_cons (re_var 1) ra_nil)))) (blkOk_by (own := [("rows", 5), ("straight", 6)]) (N := N_Parted_cut) (sc := (defScope s_Parted_cut)) (by decide +kernel)) (fun _ _ _ _ _ => (rg_tup (rgs_cons (rg_name 5 sc_Parted_cut.nd) (rgs_cons (rg_name 6 sc_Parted_cut.nd) rgs_nil)))) (fun _ _ _ _ _ => rts_nil) (fun _ _ _ _ _ => (re_tup (ra_cons (re_op opd_add (RE.p (re_lst (ra_cons (re_fld (K := K) (re_var 0)) ra_nil))) (rp_var 5)) (ra_cons (re_var 6) ra_nil)))) (sw_true rfl rfl rfl (by decide +kernel))) (rss_one (rs_ret (re_op opd_add (rp_var 4) (RE.p (by exact (RN.e (rn_lc sc_Parted_cut.nd (ri_seq (RE.or (RE.or (re_meth (re_fld (K := K) (re_var 0)) T.l_Straight T.m_Straight_cut M_Straight_cut (hr.mono (Nat.le_refl _)) (takes_of rfl rfl rfl rfl) (ra_cons (re_var 1) ra_nil)) (re_meth (re_fld (K := K) (re_var 0)) T.l_Stopped T.m_Stopped_cut M_Stopped_cut (hr.mono (Nat.le_refl _)) (takes_of rfl rfl rfl rfl) (ra_cons (re_var 1) ra_nil))) (re_meth (re_fld (K := K) (re_var 0)) T.l_Parted T.m_Parted_cut M_Parted_cut (hr.mono (Nat.le_refl _)) (takes_of rfl rfl rfl rfl) (ra_cons (re_var 1) ra_nil)))) (blkOk_by (own := [("rows", 5), ("straight", 6)]) (N := N_Parted_cut) (sc := (defScope s_Parted_cut)) (by decide +kernel)) (fun _ _ _ _ _ => (rg_tup (rgs_cons (rg_name 5 sc_Parted_cut.nd) (rgs_cons (rg_name 6 sc_Parted_cut.nd) rgs_nil)))) (fun _ _ _ _ _ => rts_nil) (fun _ _ _ _ _ => (re_tup (ra_cons (re_op opd_add (RE.p (re_lst (ra_cons (re_var 2) ra_nil))) (rp_var 5)) (ra_cons (re_var 6) ra_nil)))))))))))))
/-! ### pieces -/
abbrev s_pieces : Stmt := topS 38
theorem sc_pieces : FnScope N_pieces ["rule", "many"] (defScope s_pieces) := ⟨rfl, rfl, rfl, by decide +kernel, rfl, by decide +kernel, by decide +kernel⟩
theorem der_pieces (T : Txt K mg a_is_whole a_own a_own_list a_are_wholes a_is_row a_is_room a_is_table a_Mode_init a_is_mode a_is_push a_Thing_init a_Thing_pushes a_Thing_modes a_Thing_is_closed a_Rule_counted a_Straight_init a_Straight_fits a_Straight_cut a_Stopped_init a_Stopped_fits a_Stopped_counted a_Stopped_cut a_stops_of a_Parted_init a_Parted_fits a_Parted_counted a_Parted_cut a_pieces a_scaled a_summed a_put_in a_steered a_misread a_rounded a_wider a_put_late a_late a__law_cell_at a__law_stream a__law_number a__law_parts a__law_straight a__law_rule a__law_scaled a__law_put a__law_put_late a__law_told a__law_right a_law C_BadThing C_TooMany C_Mode C_Thing C_Rule C_Straight C_Stopped C_Parted) (M_Parted_counted : FN P w K mg base 8 a_Parted_counted 1 (G_Parted_counted C_Straight C_Stopped C_Parted 8)) (M_Parted_cut : FN P w K mg base 12 a_Parted_cut 2 (G_Parted_cut C_Straight C_Stopped C_Parted 8)) (M_Parted_fits : FN P w K mg base 10 a_Parted_fits 2 (G_Parted_fits C_Straight C_Stopped C_Parted 8)) (M_Rule_counted : FN P w K mg base 8 a_Rule_counted 1 (G_Rule_counted C_Straight C_Stopped C_Parted 8)) (M_Stopped_counted : FN P w K mg base 8 a_Stopped_counted 1 (G_Stopped_counted C_Straight C_Stopped C_Parted 8)) (M_Stopped_cut : FN P w K mg base 12 a_Stopped_cut 2 (G_Stopped_cut C_Straight C_Stopped C_Parted 8)) (M_Stopped_fits : FN P w K mg base 10 a_Stopped_fits 2 (G_Stopped_fits C_Straight C_Stopped C_Parted 8)) (M_Straight_cut : FN P w K mg base 12 a_Straight_cut 2 (G_Straight_cut C_Straight C_Stopped C_Parted 8)) (M_Straight_fits : FN P w K mg base 10 a_Straight_fits 2 (G_Straight_fits C_Straight C_Stopped C_Parted 8))
    {f : Addr} {cdv : Value} {A : Around} {outer : List Env} {s : Shared} {H : Hp} {E : XK} (hr : Room 12 (A.deeper (envOfC "pieces" (defScope s_pieces) s.heap.objs.size f cdv))) :
    RSs (cxOf (L2.CX P w) P w K mg base N_pieces "pieces" (defScope s_pieces) f cdv A outer s H E) (WF E) (defBody s_pieces) (tb_pieces K C_Rule C_Straight C_Stopped C_Parted) :=
  (rss_cons (rs_if (RW.toT (rw_or (rt_not (rt_val (RE.p (re_callB (cd_isi (K := K)) T.b_isinstance (rpa_cons (rp_var 0) (rpa_cons (RE.p (re_glob T.c_Rule rfl)) rpa_nil)))))) (rw_or1 (rt_not (rt_val (RE.p (RE.or (RE.or (re_meth (re_var 0) T.l_Straight T.m_Straight_fits M_Straight_fits (hr.mono (by decide)) (takes_of rfl rfl rfl rfl) (ra_cons (re_var 1) ra_nil)) (re_meth (re_var 0) T.l_Stopped T.m_Stopped_fits M_Stopped_fits (hr.mono (by decide)) (takes_of rfl rfl rfl rfl) (ra_cons (re_var 1) ra_nil))) (re_meth (re_var 0) T.l_Parted T.m_Parted_fits M_Parted_fits (hr.mono (by decide)) (takes_of rfl rfl rfl rfl) (ra_cons (re_var 1) ra_nil))))))))) (rss_one rs_never) rss_nil) (rss_cons (rs_if (rt_cmp opd_gt (RE.p (RE.or (RE.or (re_meth0 (re_var 0) T.l_Straight T.m_Straight_counted M_Rule_counted (hr.mono (by decide)) (takes_of rfl rfl rfl rfl)) (re_meth0 (re_var 0) T.l_Stopped T.m_Stopped_counted M_Stopped_counted (hr.mono (by decide)) (takes_of rfl rfl rfl rfl))) (re_meth0 (re_var 0) T.l_Parted T.m_Parted_counted M_Parted_counted (hr.mono (by decide)) (takes_of rfl rfl rfl rfl)))) (RE.p (re_glob (d := (.int 60)) (Classical.choose_spec T.g_MOST_PIECES) ⟨_, rfl⟩))) (rss_one rs_never) rss_nil) (rss_one (rs_ret (RE.or (RE.or (re_meth (re_var 0) T.l_Straight T.m_Straight_cut M_Straight_cut (hr.mono (by decide)) (takes_of rfl rfl rfl rfl) (ra_cons (re_var 1) ra_nil)) (re_meth (re_var 0) T.l_Stopped T.m_Stopped_cut M_Stopped_cut (hr.mono (by decide)) (takes_of rfl rfl rfl rfl) (ra_cons (re_var 1) ra_nil))) (re_meth (re_var 0) T.l_Parted T.m_Parted_cut M_Parted_cut (hr.mono (by decide)) (takes_of rfl rfl rfl rfl) (ra_cons (re_var 1) ra_nil)))))))
/-! ### scaled -/
abbrev s_scaled : Stmt := topS 40
theorem sc_scaled : FnScope N_scaled ["numbers", "by"] (defScope s_scaled) := ⟨rfl, rfl, rfl, by decide +kernel, rfl, by decide +kernel, by decide +kernel⟩
theorem der_scaled (T : Txt K mg a_is_whole a_own a_own_list a_are_wholes a_is_row a_is_room a_is_table a_Mode_init a_is_mode a_is_push a_Thing_init a_Thing_pushes a_Thing_modes a_Thing_is_closed a_Rule_counted a_Straight_init a_Straight_fits a_Straight_cut a_Stopped_init a_Stopped_fits a_Stopped_counted a_Stopped_cut a_stops_of a_Parted_init a_Parted_fits a_Parted_counted a_Parted_cut a_pieces a_scaled a_summed a_put_in a_steered a_misread a_rounded a_wider a_put_late a_late a__law_cell_at a__law_stream a__law_number a__law_parts a__law_straight a__law_rule a__law_scaled a__law_put a__law_put_late a__law_told a__law_right a_law C_BadThing C_TooMany C_Mode C_Thing C_Rule C_Straight C_Stopped C_Parted) 
    {f : Addr} {cdv : Value} {A : Around} {outer : List Env} {s : Shared} {H : Hp} {E : XK} (hr : Room 0 (A.deeper (envOfC "scaled" (defScope s_scaled) s.heap.objs.size f cdv))) :
    RSs (cxOf (L2.CX P w) P w K mg base N_scaled "scaled" (defScope s_scaled) f cdv A outer s H E) (WF E) (defBody s_scaled) (tb_scaled) :=
  (rss_one (rs_ret (by exact (RN.e (rn_lc sc_scaled.nd (ri_seq (re_var 0)) (blkOk_by (own := [("number", 2)]) (N := N_scaled) (sc := (defScope s_scaled)) (by decide +kernel)) (fun _ _ _ _ _ => (rg_name 2 sc_scaled.nd)) (fun _ _ _ _ _ => rts_nil) (fun _ _ _ _ _ => (re_op opd_mul (rp_var 1) (rp_var 2))))))))
/-! ### summed -/
abbrev s_summed : Stmt := topS 41
theorem sc_summed : FnScope N_summed ["one", "other"] (defScope s_summed) := ⟨rfl, rfl, rfl, by decide +kernel, rfl, by decide +kernel, by decide +kernel⟩
theorem der_summed (T : Txt K mg a_is_whole a_own a_own_list a_are_wholes a_is_row a_is_room a_is_table a_Mode_init a_is_mode a_is_push a_Thing_init a_Thing_pushes a_Thing_modes a_Thing_is_closed a_Rule_counted a_Straight_init a_Straight_fits a_Straight_cut a_Stopped_init a_Stopped_fits a_Stopped_counted a_Stopped_cut a_stops_of a_Parted_init a_Parted_fits a_Parted_counted a_Parted_cut a_pieces a_scaled a_summed a_put_in a_steered a_misread a_rounded a_wider a_put_late a_late a__law_cell_at a__law_stream a__law_number a__law_parts a__law_straight a__law_rule a__law_scaled a__law_put a__law_put_late a__law_told a__law_right a_law C_BadThing C_TooMany C_Mode C_Thing C_Rule C_Straight C_Stopped C_Parted) 
    {f : Addr} {cdv : Value} {A : Around} {outer : List Env} {s : Shared} {H : Hp} {E : XK} (hr : Room 0 (A.deeper (envOfC "summed" (defScope s_summed) s.heap.objs.size f cdv))) :
    RSs (cxOf (L2.CX P w) P w K mg base N_summed "summed" (defScope s_summed) f cdv A outer s H E) (WF E) (defBody s_summed) (tb_summed) :=
  (rss_one (rs_ret (by exact (RN.e (rn_lc sc_summed.nd (ri_zip (re_var 0) (re_var 1) T.b_zip) (blkOk_by (own := [("number", 2), ("more", 3)]) (N := N_summed) (sc := (defScope s_summed)) (by decide +kernel)) (fun _ _ _ _ _ => (rg_tup (rgs_cons (rg_name 2 sc_summed.nd) (rgs_cons (rg_name 3 sc_summed.nd) rgs_nil)))) (fun _ _ _ _ _ => rts_nil) (fun _ _ _ _ _ => (re_op opd_add (rp_var 2) (rp_var 3))))))))
/-! ### put_in -/
abbrev s_put_in : Stmt := topS 42
theorem sc_put_in : FnScope N_put_in ["mode", "rows", "straight"] (defScope s_put_in) := ⟨rfl, rfl, rfl, by decide +kernel, rfl, by decide +kernel, by decide +kernel⟩
theorem der_put_in (T : Txt K mg a_is_whole a_own a_own_list a_are_wholes a_is_row a_is_room a_is_table a_Mode_init a_is_mode a_is_push a_Thing_init a_Thing_pushes a_Thing_modes a_Thing_is_closed a_Rule_counted a_Straight_init a_Straight_fits a_Straight_cut a_Stopped_init a_Stopped_fits a_Stopped_counted a_Stopped_cut a_stops_of a_Parted_init a_Parted_fits a_Parted_counted a_Parted_cut a_pieces a_scaled a_summed a_put_in a_steered a_misread a_rounded a_wider a_put_late a_late a__law_cell_at a__law_stream a__law_number a__law_parts a__law_straight a__law_rule a__law_scaled a__law_put a__law_put_late a__law_told a__law_right a_law C_BadThing C_TooMany C_Mode C_Thing C_Rule C_Straight C_Stopped C_Parted) (D_scaled : FD P w K mg base 1 a_scaled 2 [] g_scaled) (D_summed : FD P w K mg base 1 a_summed 2 [] g_summed) (I_Mode : FI P w K mg base 3 C_Mode 7 [] g_Mode_init)
    {f : Addr} {cdv : Value} {A : Around} {outer : List Env} {s : Shared} {H : Hp} {E : XK} (hr : Room 4 (A.deeper (envOfC "put_in" (defScope s_put_in) s.heap.objs.size f cdv))) :
    RSs (cxOf (L2.CX P w) P w K mg base N_put_in "put_in" (defScope s_put_in) f cdv A outer s H E) (WF E) (defBody s_put_in) (tb_put_in K C_Mode) :=
  (rss_cons (rs_set 3 sc_put_in.nd (re_fld (K := K) (re_var 2))) (rss_cons (rs_setLc 4 sc_put_in.nd (ri_range1 (RE.p (re_callB cd_len T.b_len (rpa_cons (RE.p (re_fld (K := K) (re_var 0))) rpa_nil))) T.b_range) (blkOk_by (own := [("i", 5)]) (N := N_put_in) (sc := (defScope s_put_in)) (by decide +kernel)) (fun _ _ _ _ _ => (rg_name 5 sc_put_in.nd)) (fun _ _ _ _ _ => rts_nil) (fun _ _ _ _ _ => (re_call D_summed (hr.mono (by decide)) T.f_summed takes0 (ra_cons (re_call D_scaled (hr.mono (by decide)) T.f_scaled takes0 (ra_cons (re_ix ixd_seq (RE.p (re_fld (K := K) (re_var 0))) (rp_var 5)) (ra_cons (re_var 3) ra_nil))) (ra_cons (re_call D_scaled (hr.mono (by decide)) T.f_scaled takes0 (ra_cons (re_fld (K := K) (re_var 2)) (ra_cons (re_ix ixd_seq (RE.p (re_fld (K := K) (re_var 0))) (rp_var 5)) ra_nil))) ra_nil)))) (sw_true rfl rfl rfl (by decide +kernel))) (rss_cons (rs_set 6 sc_put_in.nd (re_call D_summed (hr.mono (by decide)) T.f_summed (takes_of rfl rfl rfl rfl) (ra_cons (re_call D_scaled (hr.mono (by decide)) T.f_scaled (takes_of rfl rfl rfl rfl) (ra_cons (re_fld (K := K) (re_var 0)) (ra_cons (re_var 3) ra_nil))) (ra_cons (re_call D_scaled (hr.mono (by decide)) T.f_scaled (takes_of rfl rfl rfl rfl) (ra_cons (re_fld (K := K) (re_var 0)) (ra_cons (re_fld (K := K) (re_var 2)) ra_nil))) ra_nil)))) (rss_cons (rs_setLc 7 sc_put_in.nd (ri_seq (re_fld (K := K) (re_var 0))) (blkOk_by (own := [("row", 8)]) (N := N_put_in) (sc := (defScope s_put_in)) (by decide +kernel)) (fun _ _ _ _ _ => (rg_name 8 sc_put_in.nd)) (fun _ _ _ _ _ => rts_nil) (fun _ _ _ _ _ => (re_call D_scaled (hr.mono (by decide)) T.f_scaled takes0 (ra_cons (re_var 8) (ra_cons (re_var 3) ra_nil)))) (sw_true rfl rfl rfl (by decide +kernel))) (rss_one (rs_ret (re_make I_Mode (hr.mono (by decide)) T.c_Mode (takes_of rfl rfl rfl rfl) (ra_cons (re_op opd_add (RE.p (re_fld (K := K) (re_var 0))) (rp_var 1)) (ra_cons (re_var 4) (ra_cons (by exact (RN.e (rn_lc sc_put_in.nd (ri_seq (re_fld (K := K) (re_var 0))) (blkOk_by (own := [("number", 9)]) (N := N_put_in) (sc := (defScope s_put_in)) (by decide +kernel)) (fun _ _ _ _ _ => (rg_name 9 sc_put_in.nd)) (fun _ _ _ _ _ => rts_nil) (fun _ _ _ _ _ => re_int)))) (ra_cons (re_var 7) (ra_cons (re_var 6) (ra_cons (re_op opd_mul (rp_var 3) (RE.p (re_fld (K := K) (re_var 0)))) ra_nil)))))))))))))
/-! ### steered -/
abbrev s_steered : Stmt := topS 43
theorem sc_steered : FnScope N_steered ["thing", "rule"] (defScope s_steered) := ⟨rfl, rfl, rfl, by decide +kernel, rfl, by decide +kernel, by decide +kernel⟩
theorem der_steered (T : Txt K mg a_is_whole a_own a_own_list a_are_wholes a_is_row a_is_room a_is_table a_Mode_init a_is_mode a_is_push a_Thing_init a_Thing_pushes a_Thing_modes a_Thing_is_closed a_Rule_counted a_Straight_init a_Straight_fits a_Straight_cut a_Stopped_init a_Stopped_fits a_Stopped_counted a_Stopped_cut a_stops_of a_Parted_init a_Parted_fits a_Parted_counted a_Parted_cut a_pieces a_scaled a_summed a_put_in a_steered a_misread a_rounded a_wider a_put_late a_late a__law_cell_at a__law_stream a__law_number a__law_parts a__law_straight a__law_rule a__law_scaled a__law_put a__law_put_late a__law_told a__law_right a_law C_BadThing C_TooMany C_Mode C_Thing C_Rule C_Straight C_Stopped C_Parted) (D_pieces : FD P w K mg base 13 a_pieces 2 [] (g_pieces C_Straight C_Stopped C_Parted)) (D_put_in : FD P w K mg base 5 a_put_in 3 [] (g_put_in C_Straight C_Mode)) (M_Thing_modes : FN P w K mg base 1 a_Thing_modes 1 (g_Thing_modes C_Thing)) (M_Thing_pushes : FN P w K mg base 1 a_Thing_pushes 1 (g_Thing_pushes C_Thing)) (I_Thing : FI P w K mg base 5 C_Thing 4 [] (g_Thing_init C_Mode C_BadThing C_TooMany))
    {f : Addr} {cdv : Value} {A : Around} {outer : List Env} {s : Shared} {H : Hp} {E : XK} (hr : Room 13 (A.deeper (envOfC "steered" (defScope s_steered) s.heap.objs.size f cdv))) :
    RSs (cxOf (L2.CX P w) P w K mg base N_steered "steered" (defScope s_steered) f cdv A outer s H E) (WF E) (defBody s_steered) (tb_steered K C_Straight C_Stopped C_Parted C_Thing C_Mode C_BadThing C_TooMany) :=
  (rss_cons (rs_set 2 sc_steered.nd (re_call D_pieces (hr.mono (by decide)) T.f_pieces (takes_of rfl rfl rfl rfl) (ra_cons (re_var 1) (ra_cons (re_fld (K := K) (re_var 0)) ra_nil)))) (rss_cons (rs_if (rt_cmp opd_gt (RE.p (re_op opd_mul (RE.p (re_callB cd_len T.b_len (rpa_cons (rp_var 2) rpa_nil))) (RE.p (re_callB cd_len T.b_len (rpa_cons (RE.p (re_meth0 (re_var 0) T.l_Thing T.m_Thing_modes M_Thing_modes (hr.mono (by decide)) (takes_of rfl rfl rfl rfl))) rpa_nil))))) (RE.p (re_glob (d := (.int 40)) (Classical.choose_spec T.g_MOST_MODES) ⟨_, rfl⟩))) (rss_one rs_never) rss_nil) (rss_cons (rs_set 3 sc_steered.nd (re_lst ra_nil)) (rss_cons (rs_for (passes_of rfl) (ri_seq (re_meth0 (re_var 0) T.l_Thing T.m_Thing_modes M_Thing_modes (hr.mono (by decide)) (takes_of rfl rfl rfl rfl))) (rg_name 4 sc_steered.nd) (rss_one (rs_set 3 sc_steered.nd (re_op opd_add (rp_var 3) (RE.p (by exact (RN.e (rn_lc sc_steered.nd (ri_seq (re_var 2)) (blkOk_by (own := [("rows", 5), ("straight", 6)]) (N := N_steered) (sc := (defScope s_steered)) (by decide +kernel)) (fun _ _ _ _ _ => (rg_tup (rgs_cons (rg_name 5 sc_steered.nd) (rgs_cons (rg_name 6 sc_steered.nd) rgs_nil)))) (fun _ _ _ _ _ => rts_nil) (fun _ _ _ _ _ => (re_call D_put_in (hr.mono (by decide)) T.f_put_in takes0 (ra_cons (re_var 4) (ra_cons (re_var 5) (ra_cons (re_var 6) ra_nil))))))))))))) (rss_one (rs_ret (re_make I_Thing (hr.mono (by decide)) T.c_Thing (takes_of rfl rfl rfl rfl) (ra_cons (re_fld (K := K) (re_var 0)) (ra_cons (re_meth0 (re_var 0) T.l_Thing T.m_Thing_pushes M_Thing_pushes (hr.mono (by decide)) (takes_of rfl rfl rfl rfl)) (ra_cons (re_var 3) ra_nil))))))))))
/-! ### misread -/
abbrev s_misread : Stmt := topS 44
theorem sc_misread : FnScope N_misread ["mode", "straight"] (defScope s_misread) := ⟨rfl, rfl, rfl, by decide +kernel, rfl, by decide +kernel, by decide +kernel⟩
theorem der_misread (T : Txt K mg a_is_whole a_own a_own_list a_are_wholes a_is_row a_is_room a_is_table a_Mode_init a_is_mode a_is_push a_Thing_init a_Thing_pushes a_Thing_modes a_Thing_is_closed a_Rule_counted a_Straight_init a_Straight_fits a_Straight_cut a_Stopped_init a_Stopped_fits a_Stopped_counted a_Stopped_cut a_stops_of a_Parted_init a_Parted_fits a_Parted_counted a_Parted_cut a_pieces a_scaled a_summed a_put_in a_steered a_misread a_rounded a_wider a_put_late a_late a__law_cell_at a__law_stream a__law_number a__law_parts a__law_straight a__law_rule a__law_scaled a__law_put a__law_put_late a__law_told a__law_right a_law C_BadThing C_TooMany C_Mode C_Thing C_Rule C_Straight C_Stopped C_Parted) (D_scaled : FD P w K mg base 1 a_scaled 2 [] g_scaled) (D_put_in : FD P w K mg base 5 a_put_in 3 [] (g_put_in C_Straight C_Mode)) (I_Mode : FI P w K mg base 3 C_Mode 7 [] g_Mode_init)
    {f : Addr} {cdv : Value} {A : Around} {outer : List Env} {s : Shared} {H : Hp} {E : XK} (hr : Room 5 (A.deeper (envOfC "misread" (defScope s_misread) s.heap.objs.size f cdv))) :
    RSs (cxOf (L2.CX P w) P w K mg base N_misread "misread" (defScope s_misread) f cdv A outer s H E) (WF E) (defBody s_misread) (tb_misread K C_Straight C_Mode) :=
  (rss_cons (rs_set 2 sc_misread.nd (re_call D_put_in (hr.mono (by decide)) T.f_put_in (takes_of rfl rfl rfl rfl) (ra_cons (re_var 0) (ra_cons (re_lst ra_nil) (ra_cons (re_var 1) ra_nil))))) (rss_cons (rs_own 3 sc_misread.nd (rn_lst ra_nil)) (rss_cons (rs_for (passes_of rfl) (ri_range1 (RE.p (re_callB cd_len T.b_len (rpa_cons (RE.p (re_fld (K := K) (re_var 2))) rpa_nil))) T.b_range) (rg_name 4 sc_misread.nd) (rss_one (rs_app 3 (re_op opd_add (RE.p (re_ix ixd_seq (RE.p (re_fld (K := K) (re_var 2))) (rp_var 4))) (RE.p (re_call D_scaled (hr.mono (by decide)) T.f_scaled (takes_of rfl rfl rfl rfl) (ra_cons (re_fld (K := K) (re_var 1)) (ra_cons (re_op opd_sub (RE.p re_int) (RE.p (re_ix ixd_seq (RE.p (re_fld (K := K) (re_var 0))) (rp_var 4)))) ra_nil)))))))) (rss_frz 3 (rss_one (rs_ret (re_make I_Mode (hr.mono (by decide)) T.c_Mode (takes_of rfl rfl rfl rfl) (ra_cons (re_fld (K := K) (re_var 2)) (ra_cons (re_fld (K := K) (re_var 2)) (ra_cons (re_fld (K := K) (re_var 2)) (ra_cons (re_var 3) (ra_cons (re_fld (K := K) (re_var 2)) (ra_cons (re_fld (K := K) (re_var 2)) ra_nil)))))))))))))
/-! ### rounded -/
abbrev s_rounded : Stmt := topS 45
theorem sc_rounded : FnScope N_rounded ["thing", "straight", "size"] (defScope s_rounded) := ⟨rfl, rfl, rfl, by decide +kernel, rfl, by decide +kernel, by decide +kernel⟩
theorem der_rounded (T : Txt K mg a_is_whole a_own a_own_list a_are_wholes a_is_row a_is_room a_is_table a_Mode_init a_is_mode a_is_push a_Thing_init a_Thing_pushes a_Thing_modes a_Thing_is_closed a_Rule_counted a_Straight_init a_Straight_fits a_Straight_cut a_Stopped_init a_Stopped_fits a_Stopped_counted a_Stopped_cut a_stops_of a_Parted_init a_Parted_fits a_Parted_counted a_Parted_cut a_pieces a_scaled a_summed a_put_in a_steered a_misread a_rounded a_wider a_put_late a_late a__law_cell_at a__law_stream a__law_number a__law_parts a__law_straight a__law_rule a__law_scaled a__law_put a__law_put_late a__law_told a__law_right a_law C_BadThing C_TooMany C_Mode C_Thing C_Rule C_Straight C_Stopped C_Parted) (D_is_whole : FD P w K mg base 1 a_is_whole 1 [] g_is_whole) (D_pieces : FD P w K mg base 13 a_pieces 2 [] (g_pieces C_Straight C_Stopped C_Parted)) (D_misread : FD P w K mg base 6 a_misread 2 [] (g_misread C_Straight C_Mode)) (M_Thing_modes : FN P w K mg base 1 a_Thing_modes 1 (g_Thing_modes C_Thing)) (M_Thing_pushes : FN P w K mg base 1 a_Thing_pushes 1 (g_Thing_pushes C_Thing)) (I_Thing : FI P w K mg base 5 C_Thing 4 [] (g_Thing_init C_Mode C_BadThing C_TooMany))
    {f : Addr} {cdv : Value} {A : Around} {outer : List Env} {s : Shared} {H : Hp} {E : XK} (hr : Room 13 (A.deeper (envOfC "rounded" (defScope s_rounded) s.heap.objs.size f cdv))) :
    RSs (cxOf (L2.CX P w) P w K mg base N_rounded "rounded" (defScope s_rounded) f cdv A outer s H E) (WF E) (defBody s_rounded) (tb_rounded K C_Straight C_Stopped C_Parted C_Thing C_Mode C_BadThing C_TooMany) :=
  (rss_cons (rs_if (RW.toT (rw_or (rt_not (rt_val (RE.p (re_callB (cd_isi (K := K)) T.b_isinstance (rpa_cons (rp_var 1) (rpa_cons (RE.p (re_glob T.c_Straight rfl)) rpa_nil)))))) (rw_or (rt_not (rt_val (RE.p (re_call D_is_whole (hr.mono (by decide)) T.f_is_whole (takes_of rfl rfl rfl rfl) (ra_cons (re_var 2) ra_nil))))) (rw_or1 (rt_cmp opd_lt (rp_var 2) (RE.p re_int)))))) (rss_one rs_never) rss_nil) (rss_cons (rs_expr (re_call D_pieces (hr.mono (by decide)) T.f_pieces (takes_of rfl rfl rfl rfl) (ra_cons (re_var 1) (ra_cons (re_fld (K := K) (re_var 0)) ra_nil)))) (rss_cons (rs_if (rt_cmp opd_gt (RE.p (re_op opd_add (RE.p (re_callB cd_len T.b_len (rpa_cons (RE.p (re_meth0 (re_var 0) T.l_Thing T.m_Thing_pushes M_Thing_pushes (hr.mono (by decide)) (takes_of rfl rfl rfl rfl))) rpa_nil))) (RE.p (re_fld (K := K) (re_var 0))))) (RE.p (re_glob (d := (.int 6)) (Classical.choose_spec T.g_MOST_PUSHES) ⟨_, rfl⟩))) (rss_one rs_never) rss_nil) (rss_cons (rs_set 3 sc_rounded.nd (re_op opd_add (RE.p (re_meth0 (re_var 0) T.l_Thing T.m_Thing_pushes M_Thing_pushes (hr.mono (by decide)) (takes_of rfl rfl rfl rfl))) (RE.p (by exact (RN.e (rn_lc sc_rounded.nd (ri_range1 (RE.p (re_fld (K := K) (re_var 0))) T.b_range) (blkOk_by (own := [("number", 4)]) (N := N_rounded) (sc := (defScope s_rounded)) (by decide +kernel)) (fun _ _ _ _ _ => (rg_name 4 sc_rounded.nd)) (fun _ _ _ _ _ => rts_nil) (fun _ _ _ _ _ => (re_tup (ra_cons re_int (ra_cons (re_var 2) ra_nil)))))))))) (rss_one (rs_ret (re_make I_Thing (hr.mono (by decide)) T.c_Thing (takes_of rfl rfl rfl rfl) (ra_cons (re_fld (K := K) (re_var 0)) (ra_cons (re_var 3) (ra_cons (by exact (RN.e (rn_lc sc_rounded.nd (ri_seq (re_meth0 (re_var 0) T.l_Thing T.m_Thing_modes M_Thing_modes (hr.mono (by decide)) (takes_of rfl rfl rfl rfl))) (blkOk_by (own := [("mode", 5)]) (N := N_rounded) (sc := (defScope s_rounded)) (by decide +kernel)) (fun _ _ _ _ _ => (rg_name 5 sc_rounded.nd)) (fun _ _ _ _ _ => rts_nil) (fun _ _ _ _ _ => (re_call D_misread (hr.mono (by decide)) T.f_misread takes0 (ra_cons (re_var 5) (ra_cons (re_var 1) ra_nil))))))) ra_nil))))))))))
/-! ### wider -/
abbrev s_wider : Stmt := topS 46
theorem sc_wider : FnScope N_wider ["row"] (defScope s_wider) := ⟨rfl, rfl, rfl, by decide +kernel, rfl, by decide +kernel, by decide +kernel⟩
theorem der_wider (T : Txt K mg a_is_whole a_own a_own_list a_are_wholes a_is_row a_is_room a_is_table a_Mode_init a_is_mode a_is_push a_Thing_init a_Thing_pushes a_Thing_modes a_Thing_is_closed a_Rule_counted a_Straight_init a_Straight_fits a_Straight_cut a_Stopped_init a_Stopped_fits a_Stopped_counted a_Stopped_cut a_stops_of a_Parted_init a_Parted_fits a_Parted_counted a_Parted_cut a_pieces a_scaled a_summed a_put_in a_steered a_misread a_rounded a_wider a_put_late a_late a__law_cell_at a__law_stream a__law_number a__law_parts a__law_straight a__law_rule a__law_scaled a__law_put a__law_put_late a__law_told a__law_right a_law C_BadThing C_TooMany C_Mode C_Thing C_Rule C_Straight C_Stopped C_Parted) 
    {f : Addr} {cdv : Value} {A : Around} {outer : List Env} {s : Shared} {H : Hp} {E : XK} (hr : Room 0 (A.deeper (envOfC "wider" (defScope s_wider) s.heap.objs.size f cdv))) :
    RSs (cxOf (L2.CX P w) P w K mg base N_wider "wider" (defScope s_wider) f cdv A outer s H E) (WF E) (defBody s_wider) (tb_wider) :=
  (rss_one (rs_ret (re_op opd_add (RE.p (re_slice (rp_var 0) ro_none (ro_some (RE.p (re_neg (RE.p re_int)))))) (RE.p (re_tup (ra_cons re_int (ra_cons (re_ix ixd_seq (rp_var 0) (RE.p (re_neg (RE.p re_int)))) ra_nil)))))))
/-! ### put_late -/
abbrev s_put_late : Stmt := topS 47
theorem sc_put_late : FnScope N_put_late ["mode", "rows", "straight"] (defScope s_put_late) := ⟨rfl, rfl, rfl, by decide +kernel, rfl, by decide +kernel, by decide +kernel⟩
theorem der_put_late (T : Txt K mg a_is_whole a_own a_own_list a_are_wholes a_is_row a_is_room a_is_table a_Mode_init a_is_mode a_is_push a_Thing_init a_Thing_pushes a_Thing_modes a_Thing_is_closed a_Rule_counted a_Straight_init a_Straight_fits a_Straight_cut a_Stopped_init a_Stopped_fits a_Stopped_counted a_Stopped_cut a_stops_of a_Parted_init a_Parted_fits a_Parted_counted a_Parted_cut a_pieces a_scaled a_summed a_put_in a_steered a_misread a_rounded a_wider a_put_late a_late a__law_cell_at a__law_stream a__law_number a__law_parts a__law_straight a__law_rule a__law_scaled a__law_put a__law_put_late a__law_told a__law_right a_law C_BadThing C_TooMany C_Mode C_Thing C_Rule C_Straight C_Stopped C_Parted) (D_scaled : FD P w K mg base 1 a_scaled 2 [] g_scaled) (D_wider : FD P w K mg base 1 a_wider 1 [] g_wider) (I_Mode : FI P w K mg base 3 C_Mode 7 [] g_Mode_init)
    {f : Addr} {cdv : Value} {A : Around} {outer : List Env} {s : Shared} {H : Hp} {E : XK} (hr : Room 4 (A.deeper (envOfC "put_late" (defScope s_put_late) s.heap.objs.size f cdv))) :
    RSs (cxOf (L2.CX P w) P w K mg base N_put_late "put_late" (defScope s_put_late) f cdv A outer s H E) (WF E) (defBody s_put_late) (tb_put_late K C_Mode) :=
  (rss_cons (rs_set 3 sc_put_late.nd (re_fld (K := K) (re_var 2))) (rss_cons (rs_ownLc 4 sc_put_late.nd (ri_range1 (RE.p (re_callB cd_len T.b_len (rpa_cons (RE.p (re_fld (K := K) (re_var 0))) rpa_nil))) T.b_range) (blkOk_by (own := [("i", 5)]) (N := N_put_late) (sc := (defScope s_put_late)) (by decide +kernel)) (fun _ _ _ _ _ => (rg_name 5 sc_put_late.nd)) (fun _ _ _ _ _ => rts_nil) (fun _ _ _ _ _ => (re_op opd_add (RE.p (re_call D_scaled (hr.mono (by decide)) T.f_scaled takes0 (ra_cons (re_ix ixd_seq (RE.p (re_fld (K := K) (re_var 0))) (rp_var 5)) (ra_cons (re_var 3) ra_nil)))) (RE.p (re_lst (ra_cons (re_op opd_mul (rp_var 3) (RE.p (re_ix ixd_seq (RE.p (re_fld (K := K) (re_var 0))) (rp_var 5)))) ra_nil))))) (sw_true rfl rfl rfl (by decide +kernel))) (rss_cons (rs_app 4 (re_op opd_add (RE.p (re_call D_scaled (hr.mono (by decide)) T.f_scaled (takes_of rfl rfl rfl rfl) (ra_cons (re_fld (K := K) (re_var 2)) (ra_cons (re_fld (K := K) (re_var 0)) ra_nil)))) (RE.p (re_lst (ra_cons re_int ra_nil))))) (rss_cons (rs_set 6 sc_put_late.nd (re_op opd_add (RE.p (re_call D_scaled (hr.mono (by decide)) T.f_scaled (takes_of rfl rfl rfl rfl) (ra_cons (re_fld (K := K) (re_var 0)) (ra_cons (re_var 3) ra_nil)))) (RE.p (re_lst (ra_cons (re_op opd_mul (RE.p (re_fld (K := K) (re_var 0))) (RE.p (re_fld (K := K) (re_var 2)))) ra_nil))))) (rss_cons (rs_set 7 sc_put_late.nd (re_op opd_add (RE.p (by exact (RN.e (rn_lc sc_put_late.nd (ri_seq (re_fld (K := K) (re_var 0))) (blkOk_by (own := [("row", 8)]) (N := N_put_late) (sc := (defScope s_put_late)) (by decide +kernel)) (fun _ _ _ _ _ => (rg_name 8 sc_put_late.nd)) (fun _ _ _ _ _ => rts_nil) (fun _ _ _ _ _ => (re_call D_scaled (hr.mono (by decide)) T.f_scaled takes0 (ra_cons (re_var 8) (ra_cons (re_var 3) ra_nil)))))))) (RE.p (re_lst (ra_cons (by exact (RN.e (rn_lc sc_put_late.nd (ri_seq (re_ix ixd_seq (RE.p (re_fld (K := K) (re_var 0))) (RE.p re_int))) (blkOk_by (own := [("number", 9)]) (N := N_put_late) (sc := (defScope s_put_late)) (by decide +kernel)) (fun _ _ _ _ _ => (rg_name 9 sc_put_late.nd)) (fun _ _ _ _ _ => rts_nil) (fun _ _ _ _ _ => re_int)))) ra_nil))))) (rss_frz 4 (rss_one (rs_ret (re_make I_Mode (hr.mono (by decide)) T.c_Mode (takes_of rfl rfl rfl rfl) (ra_cons (by exact (RN.e (rn_lc sc_put_late.nd (ri_seq (re_op opd_add (RE.p (re_fld (K := K) (re_var 0))) (rp_var 1))) (blkOk_by (own := [("row", 8)]) (N := N_put_late) (sc := (defScope s_put_late)) (by decide +kernel)) (fun _ _ _ _ _ => (rg_name 8 sc_put_late.nd)) (fun _ _ _ _ _ => rts_nil) (fun _ _ _ _ _ => (re_call D_wider (hr.mono (by decide)) T.f_wider takes0 (ra_cons (re_var 8) ra_nil)))))) (ra_cons (re_var 4) (ra_cons (re_op opd_mul (RE.p (re_lst (ra_cons re_int ra_nil))) (RE.p (re_callB cd_len T.b_len (rpa_cons (rp_var 4) rpa_nil)))) (ra_cons (re_var 7) (ra_cons (re_var 6) (ra_cons (re_op opd_mul (rp_var 3) (RE.p (re_fld (K := K) (re_var 0)))) ra_nil)))))))))))))))
/-! ### late -/
abbrev s_late : Stmt := topS 48
theorem sc_late : FnScope N_late ["thing", "rule"] (defScope s_late) := ⟨rfl, rfl, rfl, by decide +kernel, rfl, by decide +kernel, by decide +kernel⟩
theorem der_late (T : Txt K mg a_is_whole a_own a_own_list a_are_wholes a_is_row a_is_room a_is_table a_Mode_init a_is_mode a_is_push a_Thing_init a_Thing_pushes a_Thing_modes a_Thing_is_closed a_Rule_counted a_Straight_init a_Straight_fits a_Straight_cut a_Stopped_init a_Stopped_fits a_Stopped_counted a_Stopped_cut a_stops_of a_Parted_init a_Parted_fits a_Parted_counted a_Parted_cut a_pieces a_scaled a_summed a_put_in a_steered a_misread a_rounded a_wider a_put_late a_late a__law_cell_at a__law_stream a__law_number a__law_parts a__law_straight a__law_rule a__law_scaled a__law_put a__law_put_late a__law_told a__law_right a_law C_BadThing C_TooMany C_Mode C_Thing C_Rule C_Straight C_Stopped C_Parted) (D_pieces : FD P w K mg base 13 a_pieces 2 [] (g_pieces C_Straight C_Stopped C_Parted)) (D_put_late : FD P w K mg base 5 a_put_late 3 [] (g_put_late C_Straight C_Mode)) (M_Thing_modes : FN P w K mg base 1 a_Thing_modes 1 (g_Thing_modes C_Thing)) (M_Thing_pushes : FN P w K mg base 1 a_Thing_pushes 1 (g_Thing_pushes C_Thing)) (I_Thing : FI P w K mg base 5 C_Thing 4 [] (g_Thing_init C_Mode C_BadThing C_TooMany))
    {f : Addr} {cdv : Value} {A : Around} {outer : List Env} {s : Shared} {H : Hp} {E : XK} (hr : Room 13 (A.deeper (envOfC "late" (defScope s_late) s.heap.objs.size f cdv))) :
    RSs (cxOf (L2.CX P w) P w K mg base N_late "late" (defScope s_late) f cdv A outer s H E) (WF E) (defBody s_late) (tb_late K C_Straight C_Stopped C_Parted C_Thing C_Mode C_BadThing C_TooMany) :=
  (rss_cons (rs_set 2 sc_late.nd (re_call D_pieces (hr.mono (by decide)) T.f_pieces (takes_of rfl rfl rfl rfl) (ra_cons (re_var 1) (ra_cons (re_fld (K := K) (re_var 0)) ra_nil)))) (rss_cons (rs_if (RW.toT (rw_or (rt_cmp opd_gt (RE.p (re_fld (K := K) (re_var 0))) (RE.p re_int)) (rw_or1 (rt_cmp opd_gt (RE.p (re_op opd_mul (RE.p (re_callB cd_len T.b_len (rpa_cons (rp_var 2) rpa_nil))) (RE.p (re_callB cd_len T.b_len (rpa_cons (RE.p (re_meth0 (re_var 0) T.l_Thing T.m_Thing_modes M_Thing_modes (hr.mono (by decide)) (takes_of rfl rfl rfl rfl))) rpa_nil))))) (RE.p (re_glob (d := (.int 40)) (Classical.choose_spec T.g_MOST_MODES) ⟨_, rfl⟩)))))) (rss_one rs_never) rss_nil) (rss_cons (rs_set 3 sc_late.nd (re_lst ra_nil)) (rss_cons (rs_for (passes_of rfl) (ri_seq (re_meth0 (re_var 0) T.l_Thing T.m_Thing_modes M_Thing_modes (hr.mono (by decide)) (takes_of rfl rfl rfl rfl))) (rg_name 4 sc_late.nd) (rss_one (rs_set 3 sc_late.nd (re_op opd_add (rp_var 3) (RE.p (by exact (RN.e (rn_lc sc_late.nd (ri_seq (re_var 2)) (blkOk_by (own := [("rows", 5), ("straight", 6)]) (N := N_late) (sc := (defScope s_late)) (by decide +kernel)) (fun _ _ _ _ _ => (rg_tup (rgs_cons (rg_name 5 sc_late.nd) (rgs_cons (rg_name 6 sc_late.nd) rgs_nil)))) (fun _ _ _ _ _ => rts_nil) (fun _ _ _ _ _ => (re_call D_put_late (hr.mono (by decide)) T.f_put_late takes0 (ra_cons (re_var 4) (ra_cons (re_var 5) (ra_cons (re_var 6) ra_nil))))))))))))) (rss_one (rs_ret (re_make I_Thing (hr.mono (by decide)) T.c_Thing (takes_of rfl rfl rfl rfl) (ra_cons (re_op opd_add (RE.p (re_fld (K := K) (re_var 0))) (RE.p re_int)) (ra_cons (re_meth0 (re_var 0) T.l_Thing T.m_Thing_pushes M_Thing_pushes (hr.mono (by decide)) (takes_of rfl rfl rfl rfl)) (ra_cons (re_var 3) ra_nil))))))))))
/-! ### _law_cell_at -/
abbrev s__law_cell_at : Stmt := topS 50
abbrev N__law_cell_at : List Str := ["_law_script", "_law_k"]
abbrev g__law_cell_at : DF := g_cellL
abbrev tb__law_cell_at  : DS := tb_cellL
theorem rd__law_cell_at  (ds : List D) (Q E : EQ) (h1 : ds.length = 2) (h2 : g__law_cell_at ds Q E) : tb__law_cell_at (dE Q E) (startD N__law_cell_at ds) := rd_cellL ds Q E h1 h2
theorem sc__law_cell_at : FnScope N__law_cell_at ["_law_script", "_law_k"] (defScope s__law_cell_at) := ⟨rfl, rfl, rfl, by decide +kernel, rfl, by decide +kernel, by decide +kernel⟩
theorem der__law_cell_at (T : Txt K mg a_is_whole a_own a_own_list a_are_wholes a_is_row a_is_room a_is_table a_Mode_init a_is_mode a_is_push a_Thing_init a_Thing_pushes a_Thing_modes a_Thing_is_closed a_Rule_counted a_Straight_init a_Straight_fits a_Straight_cut a_Stopped_init a_Stopped_fits a_Stopped_counted a_Stopped_cut a_stops_of a_Parted_init a_Parted_fits a_Parted_counted a_Parted_cut a_pieces a_scaled a_summed a_put_in a_steered a_misread a_rounded a_wider a_put_late a_late a__law_cell_at a__law_stream a__law_number a__law_parts a__law_straight a__law_rule a__law_scaled a__law_put a__law_put_late a__law_told a__law_right a_law C_BadThing C_TooMany C_Mode C_Thing C_Rule C_Straight C_Stopped C_Parted) 
    {f : Addr} {cdv : Value} {A : Around} {outer : List Env} {s : Shared} {H : Hp} {E : XK} (hr : Room 0 (A.deeper (envOfC "_law_cell_at" (defScope s__law_cell_at) s.heap.objs.size f cdv))) :
    RSs (cxOf (L2.CX P w) P w K mg base N__law_cell_at "_law_cell_at" (defScope s__law_cell_at) f cdv A outer s H E) (WF E) (defBody s__law_cell_at) (tb__law_cell_at) :=
  (rss_cons (rs_if (rt_cmp opd_lt (rp_var 1) (RE.p (re_callB cd_len T.b_len (rpa_cons (rp_var 0) rpa_nil)))) (rss_one (rs_ret (re_ix ixd_seq (rp_var 0) (rp_var 1)))) rss_nil) (rss_one (rs_ret re_int)))
/-! ### _law_stream -/
abbrev s__law_stream : Stmt := topS 51
abbrev N__law_stream : List Str := ["_law_cell", "_law_many", "_law_found", "_law_rest", "_law_k", "_law_number_here"]
abbrev g__law_stream : DF := g_stream31
abbrev tb__law_stream  : DS := tb_stream31
theorem rd__law_stream  (ds : List D) (Q E : EQ) (h1 : ds.length = 2) (h2 : g__law_stream ds Q E) : tb__law_stream (dE Q E) (startD N__law_stream ds) := rd_stream31 ds Q E h1 h2
theorem sc__law_stream : FnScope N__law_stream ["_law_cell", "_law_many"] (defScope s__law_stream) := ⟨rfl, rfl, rfl, by decide +kernel, rfl, by decide +kernel, by decide +kernel⟩
theorem der__law_stream (T : Txt K mg a_is_whole a_own a_own_list a_are_wholes a_is_row a_is_room a_is_table a_Mode_init a_is_mode a_is_push a_Thing_init a_Thing_pushes a_Thing_modes a_Thing_is_closed a_Rule_counted a_Straight_init a_Straight_fits a_Straight_cut a_Stopped_init a_Stopped_fits a_Stopped_counted a_Stopped_cut a_stops_of a_Parted_init a_Parted_fits a_Parted_counted a_Parted_cut a_pieces a_scaled a_summed a_put_in a_steered a_misread a_rounded a_wider a_put_late a_late a__law_cell_at a__law_stream a__law_number a__law_parts a__law_straight a__law_rule a__law_scaled a__law_put a__law_put_late a__law_told a__law_right a_law C_BadThing C_TooMany C_Mode C_Thing C_Rule C_Straight C_Stopped C_Parted) 
    {f : Addr} {cdv : Value} {A : Around} {outer : List Env} {s : Shared} {H : Hp} {E : XK} (hr : Room 0 (A.deeper (envOfC "_law_stream" (defScope s__law_stream) s.heap.objs.size f cdv))) :
    RSs (cxOf (L2.CX P w) P w K mg base N__law_stream "_law_stream" (defScope s__law_stream) f cdv A outer s H E) (WF E) (defBody s__law_stream) (tb__law_stream) :=
  (rss_cons (rs_own 2 sc__law_stream.nd (rn_lst ra_nil)) (rss_cons (rs_if (rt_cmp opd_ge (rp_var 0) (RE.p (re_op opd_pow (RE.p re_int) (RE.p re_int)))) (rss_cons (rs_set 3 sc__law_stream.nd (re_op opd_sub (rp_var 0) (RE.p (re_op opd_pow (RE.p re_int) (RE.p re_int))))) (rss_cons (rs_for (passes_of rfl) (ri_range1 (rp_var 1) T.b_range) (rg_name 4 sc__law_stream.nd) (rss_cons (rs_app 2 (re_op opd_mod (rp_var 3) (RE.p re_int))) (rss_one (rs_set 3 sc__law_stream.nd (re_op opd_div (rp_var 3) (RE.p re_int)))))) (rss_frz 2 (rss_one (rs_ret (re_var 2)))))) rss_nil) (rss_cons (rs_set 5 sc__law_stream.nd (re_op opd_add (RE.p (re_op opd_mod (rp_var 0) (RE.p re_int))) (RE.p re_int))) (rss_cons (rs_for (passes_of rfl) (ri_range1 (RE.p (re_op opd_add (rp_var 1) (RE.p re_int))) T.b_range) (rg_name 4 sc__law_stream.nd) (rss_cons (rs_set 5 sc__law_stream.nd (re_op opd_mod (RE.p (re_op opd_add (RE.p (re_op opd_add (RE.p (re_op opd_mul (rp_var 5) (rp_var 5))) (RE.p (re_op opd_mul (RE.p re_int) (rp_var 5))))) (rp_var 4))) (RE.p re_int))) (rss_one (rs_app 2 (re_var 5))))) (rss_one (rs_ret (re_slice (rp_var 2) (ro_some (RE.p re_int)) ro_none)))))))
/-! ### _law_number -/
abbrev s__law_number : Stmt := topS 52
abbrev N__law_number : List Str := ["_law_number_here"]
theorem sc__law_number : FnScope N__law_number ["_law_number_here"] (defScope s__law_number) := ⟨rfl, rfl, rfl, by decide +kernel, rfl, by decide +kernel, by decide +kernel⟩
def tb__law_number  : DS :=
  (dSq (dIf (dTest (dOp kEq (dOp kMod (dVarP 0) (dC (.int 9))) (dC (.int 1)))) (dRet (dOp kSub (dOp kMod (dOp kMul (dOp kDiv (dVarP 0) (dC (.int 9))) (dOp kPow (dC (.int 10)) (dC (.int 12)))) (dOp kPow (dC (.int 10)) (dC (.int 20)))) (dOp kMul (dC (.int 5)) (dOp kPow (dC (.int 10)) (dC (.int 19)))))) dNext) (dRet (dOp kSub (dOp kMod (dOp kDiv (dVarP 0) (dC (.int 9))) (dC (.int 19))) (dC (.int 9)))))
theorem der__law_number (T : Txt K mg a_is_whole a_own a_own_list a_are_wholes a_is_row a_is_room a_is_table a_Mode_init a_is_mode a_is_push a_Thing_init a_Thing_pushes a_Thing_modes a_Thing_is_closed a_Rule_counted a_Straight_init a_Straight_fits a_Straight_cut a_Stopped_init a_Stopped_fits a_Stopped_counted a_Stopped_cut a_stops_of a_Parted_init a_Parted_fits a_Parted_counted a_Parted_cut a_pieces a_scaled a_summed a_put_in a_steered a_misread a_rounded a_wider a_put_late a_late a__law_cell_at a__law_stream a__law_number a__law_parts a__law_straight a__law_rule a__law_scaled a__law_put a__law_put_late a__law_told a__law_right a_law C_BadThing C_TooMany C_Mode C_Thing C_Rule C_Straight C_Stopped C_Parted) 
    {f : Addr} {cdv : Value} {A : Around} {outer : List Env} {s : Shared} {H : Hp} {E : XK} (hr : Room 0 (A.deeper (envOfC "_law_number" (defScope s__law_number) s.heap.objs.size f cdv))) :
    RSs (cxOf (L2.CX P w) P w K mg base N__law_number "_law_number" (defScope s__law_number) f cdv A outer s H E) (WF E) (defBody s__law_number) (tb__law_number) :=
  (rss_cons (rs_if (rt_cmp (opd_eq hr.units) (RE.p (re_op opd_mod (rp_var 0) (RE.p re_int))) (RE.p re_int)) (rss_one (rs_ret (re_op opd_sub (RE.p (re_op opd_mod (RE.p (re_op opd_mul (RE.p (re_op opd_div (rp_var 0) (RE.p re_int))) (RE.p (re_op opd_pow (RE.p re_int) (RE.p re_int))))) (RE.p (re_op opd_pow (RE.p re_int) (RE.p re_int))))) (RE.p (re_op opd_mul (RE.p re_int) (RE.p (re_op opd_pow (RE.p re_int) (RE.p re_int)))))))) rss_nil) (rss_one (rs_ret (re_op opd_sub (RE.p (re_op opd_mod (RE.p (re_op opd_div (rp_var 0) (RE.p re_int))) (RE.p re_int))) (RE.p re_int)))))
/-! ### _law_parts -/
abbrev s__law_parts : Stmt := topS 53
abbrev N__law_parts : List Str := ["_law_cell", "_law_many", "_law_wide", "_law_xs", "_law_numbers", "_law_number_here", "_law_rows", "_law_k", "_law_nexts", "_law_i", "_law_push"]
theorem sc__law_parts : FnScope N__law_parts ["_law_cell", "_law_many", "_law_wide"] (defScope s__law_parts) := ⟨rfl, rfl, rfl, by decide +kernel, rfl, by decide +kernel, by decide +kernel⟩
def tb__law_parts  : DS :=
  (dSq (dSet 3 (dCall 2 [] g__law_stream (dCons (dVar 0) (dCons (dC (.int 40)) dNil)))) (dSq (dSet 4 (dFz (dLcN (dSeq (dVar 3)) (gNm 5) dYes (dCall 1 [] g__law_number (dCons (dVar 5) dNil)) [5]))) (dSq (dSet 6 (dLc (dRng1 (dOp kMod (dOp kIx (dVarP 3) (dC (.int 39))) (dC (.int 3)))) (gNm 7) dYes (dCB kTuple (dCons (dSl (dVarP 4) (dPart (dOp kMul (dC (.int 4)) (dVarP 7))) (dPart (dOp kAdd (dOp kAdd (dOp kMul (dC (.int 4)) (dVarP 7)) (dVarP 1)) (dC (.int 1))))) dNil)) [7])) (dSq (dSet 8 (dLc (dRng1 (dVarP 1)) (gNm 9) dYes (dSl (dVarP 4) (dPart (dOp kAdd (dC (.int 8)) (dOp kMul (dC (.int 3)) (dVarP 9)))) (dPart (dOp kAdd (dOp kAdd (dC (.int 8)) (dOp kMul (dC (.int 3)) (dVarP 9))) (dVarP 1)))) [9])) (dSq (dSet 10 (dLc (dRng1 (dVarP 1)) (gNm 9) dYes (dSl (dVarP 4) (dPart (dOp kAdd (dC (.int 20)) (dOp kMul (dC (.int 3)) (dVarP 9)))) (dPart (dOp kAdd (dOp kAdd (dC (.int 20)) (dOp kMul (dC (.int 3)) (dVarP 9))) (dVarP 2)))) [9])) (dRet (dLst (dCons (dVar 6) (dCons (dVar 8) (dCons (dSl (dVarP 4) (dPart (dC (.int 17))) (dPart (dOp kAdd (dC (.int 17)) (dVarP 1)))) (dCons (dVar 10) (dCons (dSl (dVarP 4) (dPart (dC (.int 30))) (dPart (dOp kAdd (dC (.int 30)) (dVarP 1)))) (dCons (dOp kAdd (dC (.int 1)) (dOp kMod (dOp kIx (dVarP 3) (dC (.int 38))) (dC (.int 9)))) dNil)))))))))))))
theorem der__law_parts (T : Txt K mg a_is_whole a_own a_own_list a_are_wholes a_is_row a_is_room a_is_table a_Mode_init a_is_mode a_is_push a_Thing_init a_Thing_pushes a_Thing_modes a_Thing_is_closed a_Rule_counted a_Straight_init a_Straight_fits a_Straight_cut a_Stopped_init a_Stopped_fits a_Stopped_counted a_Stopped_cut a_stops_of a_Parted_init a_Parted_fits a_Parted_counted a_Parted_cut a_pieces a_scaled a_summed a_put_in a_steered a_misread a_rounded a_wider a_put_late a_late a__law_cell_at a__law_stream a__law_number a__law_parts a__law_straight a__law_rule a__law_scaled a__law_put a__law_put_late a__law_told a__law_right a_law C_BadThing C_TooMany C_Mode C_Thing C_Rule C_Straight C_Stopped C_Parted) (D__law_stream : FD P w K mg base 1 a__law_stream 2 [] g__law_stream) (D__law_number : FD P w K mg base 1 a__law_number 1 [] g__law_number)
    {f : Addr} {cdv : Value} {A : Around} {outer : List Env} {s : Shared} {H : Hp} {E : XK} (hr : Room 1 (A.deeper (envOfC "_law_parts" (defScope s__law_parts) s.heap.objs.size f cdv))) :
    RSs (cxOf (L2.CX P w) P w K mg base N__law_parts "_law_parts" (defScope s__law_parts) f cdv A outer s H E) (WF E) (defBody s__law_parts) (tb__law_parts) :=
  (rss_cons (rs_set 3 sc__law_parts.nd (re_call D__law_stream (hr.mono (by decide)) T.f__law_stream (takes_of rfl rfl rfl rfl) (ra_cons (re_var 0) (ra_cons re_int ra_nil)))) (rss_cons (rs_set 4 sc__law_parts.nd (RN.e (rn_lc sc__law_parts.nd (ri_seq (re_var 3)) (blkOk_by (own := [("_law_number_here", 5)]) (N := N__law_parts) (sc := (defScope s__law_parts)) (by decide +kernel)) (fun _ _ _ _ _ => (rg_name 5 sc__law_parts.nd)) (fun _ _ _ _ _ => rts_nil) (fun _ _ _ _ _ => (re_call D__law_number (hr.mono (by decide)) T.f__law_number takes0 (ra_cons (re_var 5) ra_nil)))))) (rss_cons (rs_setLc 6 sc__law_parts.nd (ri_range1 (RE.p (re_op opd_mod (RE.p (re_ix ixd_seq (rp_var 3) (RE.p re_int))) (RE.p re_int))) T.b_range) (blkOk_by (own := [("_law_k", 7)]) (N := N__law_parts) (sc := (defScope s__law_parts)) (by decide +kernel)) (fun _ _ _ _ _ => (rg_name 7 sc__law_parts.nd)) (fun _ _ _ _ _ => rts_nil) (fun _ _ _ _ _ => (re_callTy cd_tuple T.b_tuple (rpa_cons (RE.p (re_slice (rp_var 4) (ro_some (RE.p (re_op opd_mul (RE.p re_int) (rp_var 7)))) (ro_some (RE.p (re_op opd_add (RE.p (re_op opd_add (RE.p (re_op opd_mul (RE.p re_int) (rp_var 7))) (rp_var 1))) (RE.p re_int)))))) rpa_nil))) (sw_true rfl rfl rfl (by decide +kernel))) (rss_cons (rs_setLc 8 sc__law_parts.nd (ri_range1 (rp_var 1) T.b_range) (blkOk_by (own := [("_law_i", 9)]) (N := N__law_parts) (sc := (defScope s__law_parts)) (by decide +kernel)) (fun _ _ _ _ _ => (rg_name 9 sc__law_parts.nd)) (fun _ _ _ _ _ => rts_nil) (fun _ _ _ _ _ => (re_slice (rp_var 4) (ro_some (RE.p (re_op opd_add (RE.p re_int) (RE.p (re_op opd_mul (RE.p re_int) (rp_var 9)))))) (ro_some (RE.p (re_op opd_add (RE.p (re_op opd_add (RE.p re_int) (RE.p (re_op opd_mul (RE.p re_int) (rp_var 9))))) (rp_var 1)))))) (sw_true rfl rfl rfl (by decide +kernel))) (rss_cons (rs_setLc 10 sc__law_parts.nd (ri_range1 (rp_var 1) T.b_range) (blkOk_by (own := [("_law_i", 9)]) (N := N__law_parts) (sc := (defScope s__law_parts)) (by decide +kernel)) (fun _ _ _ _ _ => (rg_name 9 sc__law_parts.nd)) (fun _ _ _ _ _ => rts_nil) (fun _ _ _ _ _ => (re_slice (rp_var 4) (ro_some (RE.p (re_op opd_add (RE.p re_int) (RE.p (re_op opd_mul (RE.p re_int) (rp_var 9)))))) (ro_some (RE.p (re_op opd_add (RE.p (re_op opd_add (RE.p re_int) (RE.p (re_op opd_mul (RE.p re_int) (rp_var 9))))) (rp_var 2)))))) (sw_true rfl rfl rfl (by decide +kernel))) (rss_one (rs_ret (re_lst (ra_cons (re_var 6) (ra_cons (re_var 8) (ra_cons (re_slice (rp_var 4) (ro_some (RE.p re_int)) (ro_some (RE.p (re_op opd_add (RE.p re_int) (rp_var 1))))) (ra_cons (re_var 10) (ra_cons (re_slice (rp_var 4) (ro_some (RE.p re_int)) (ro_some (RE.p (re_op opd_add (RE.p re_int) (rp_var 1))))) (ra_cons (re_op opd_add (RE.p re_int) (RE.p (re_op opd_mod (RE.p (re_ix ixd_seq (rp_var 3) (RE.p re_int))) (RE.p re_int)))) ra_nil))))))))))))))
/-! ### _law_straight -/
abbrev s__law_straight : Stmt := topS 54
abbrev N__law_straight : List Str := ["_law_cell", "_law_many", "_law_xs", "_law_number_here"]
theorem sc__law_straight : FnScope N__law_straight ["_law_cell", "_law_many"] (defScope s__law_straight) := ⟨rfl, rfl, rfl, by decide +kernel, rfl, by decide +kernel, by decide +kernel⟩
def tb__law_straight (C_Straight : Addr) : DS :=
  (dSq (dSet 2 (dCall 2 [] g__law_stream (dCons (dVar 0) (dCons (dC (.int 5)) dNil)))) (dRet (dMake 4 C_Straight [] g_Straight_init (dCons (dFz (dLcN (dSeq (dSl (dVarP 2) dNoPart (dPart (dVarP 1)))) (gNm 3) dYes (dCall 1 [] g__law_number (dCons (dVar 3) dNil)) [3])) (dCons (dCall 1 [] g__law_number (dCons (dOp kIx (dVarP 2) (dC (.int 3))) dNil)) (dCons (dOp kAdd (dC (.int 1)) (dOp kMod (dOp kIx (dVarP 2) (dC (.int 4))) (dC (.int 9)))) dNil))))))
theorem der__law_straight (T : Txt K mg a_is_whole a_own a_own_list a_are_wholes a_is_row a_is_room a_is_table a_Mode_init a_is_mode a_is_push a_Thing_init a_Thing_pushes a_Thing_modes a_Thing_is_closed a_Rule_counted a_Straight_init a_Straight_fits a_Straight_cut a_Stopped_init a_Stopped_fits a_Stopped_counted a_Stopped_cut a_stops_of a_Parted_init a_Parted_fits a_Parted_counted a_Parted_cut a_pieces a_scaled a_summed a_put_in a_steered a_misread a_rounded a_wider a_put_late a_late a__law_cell_at a__law_stream a__law_number a__law_parts a__law_straight a__law_rule a__law_scaled a__law_put a__law_put_late a__law_told a__law_right a_law C_BadThing C_TooMany C_Mode C_Thing C_Rule C_Straight C_Stopped C_Parted) (D__law_stream : FD P w K mg base 1 a__law_stream 2 [] g__law_stream) (D__law_number : FD P w K mg base 1 a__law_number 1 [] g__law_number) (I_Straight : FI P w K mg base 2 C_Straight 4 [] g_Straight_init)
    {f : Addr} {cdv : Value} {A : Around} {outer : List Env} {s : Shared} {H : Hp} {E : XK} (hr : Room 3 (A.deeper (envOfC "_law_straight" (defScope s__law_straight) s.heap.objs.size f cdv))) :
    RSs (cxOf (L2.CX P w) P w K mg base N__law_straight "_law_straight" (defScope s__law_straight) f cdv A outer s H E) (WF E) (defBody s__law_straight) (tb__law_straight C_Straight) :=
  (rss_cons (rs_set 2 sc__law_straight.nd (re_call D__law_stream (hr.mono (by decide)) T.f__law_stream (takes_of rfl rfl rfl rfl) (ra_cons (re_var 0) (ra_cons re_int ra_nil)))) (rss_one (rs_ret (re_make I_Straight (hr.mono (by decide)) T.c_Straight (takes_of rfl rfl rfl rfl) (ra_cons (by exact (RN.e (rn_lc sc__law_straight.nd (ri_seq (re_slice (rp_var 2) ro_none (ro_some (rp_var 1)))) (blkOk_by (own := [("_law_number_here", 3)]) (N := N__law_straight) (sc := (defScope s__law_straight)) (by decide +kernel)) (fun _ _ _ _ _ => (rg_name 3 sc__law_straight.nd)) (fun _ _ _ _ _ => rts_nil) (fun _ _ _ _ _ => (re_call D__law_number (hr.mono (by decide)) T.f__law_number takes0 (ra_cons (re_var 3) ra_nil)))))) (ra_cons (re_call D__law_number (hr.mono (by decide)) T.f__law_number (takes_of rfl rfl rfl rfl) (ra_cons (re_ix ixd_seq (rp_var 2) (RE.p re_int)) ra_nil)) (ra_cons (re_op opd_add (RE.p re_int) (RE.p (re_op opd_mod (RE.p (re_ix ixd_seq (rp_var 2) (RE.p re_int))) (RE.p re_int)))) ra_nil)))))))
/-! ### _law_rule -/
abbrev s__law_rule : Stmt := topS 55
abbrev N__law_rule : List Str := ["_law_cells", "_law_many", "_law_rule_here", "_law_k", "_law_xs", "_law_other", "_law_row", "_law_number_here"]
theorem sc__law_rule : FnScope N__law_rule ["_law_cells", "_law_many"] (defScope s__law_rule) := ⟨rfl, rfl, rfl, by decide +kernel, rfl, by decide +kernel, by decide +kernel⟩
def tb__law_rule (C_Straight C_Stopped C_Parted : Addr) : DS :=
  (dSq (dSet 2 (dCall 2 [] (g__law_straight C_Straight) (dCons (dCall 2 [] g__law_cell_at (dCons (dVar 0) (dCons (dC (.int 0)) dNil))) (dCons (dVar 1) dNil)))) (dSq (dFor (dRng2 (dC (.int 1)) (dCB kLen (dCons (dVarP 0) dNil))) (gNm 3) (dSq (dSet 4 (dCall 2 [] g__law_stream (dCons (dOp kIx (dVarP 0) (dVarP 3)) (dCons (dC (.int 5)) dNil)))) (dIf (dAnd (dTest (dOp kEq (dOp kMod (dOp kIx (dVarP 4) (dC (.int 4))) (dC (.int 3))) (dC (.int 0)))) (dTest (dOp kLt (dVarP 3) (dC (.int 3))))) (dSet 2 (dMake 4 C_Stopped [] g_Stopped_init (dCons (dVar 2) (dCons (dOp kSub (dOp kMod (dOp kIx (dVarP 4) (dC (.int 0))) (dC (.int 9))) (dC (.int 9))) (dCons (dOp kMod (dOp kIx (dVarP 4) (dC (.int 1))) (dC (.int 9))) dNil))))) (dSq (dSet 5 (dCall 2 [] (g__law_straight C_Straight) (dCons (dOp kDiv (dOp kIx (dVarP 0) (dVarP 3)) (dC (.int 7))) (dCons (dVar 1) dNil)))) (dSq (dSet 6 (dCB kTuple (dCons (dFz (dLcN (dSeq (dSl (dVarP 4) dNoPart (dPart (dOp kAdd (dVarP 1) (dC (.int 1)))))) (gNm 7) dYes (dCall 1 [] g__law_number (dCons (dVar 7) dNil)) [7])) dNil))) (dSet 2 (dMake 4 C_Parted [] g_Parted_init (dCons (dVar 6) (dCons (dOp kIx (dLst (dCons (dVar 2) (dCons (dVar 5) dNil))) (dOp kMod (dOp kIx (dVarP 4) (dC (.int 4))) (dC (.int 2)))) (dCons (dOp kIx (dLst (dCons (dVar 5) (dCons (dVar 2) dNil))) (dOp kMod (dOp kIx (dVarP 4) (dC (.int 4))) (dC (.int 2)))) dNil)))))))))) (dRet (dVar 2))))
theorem der__law_rule (T : Txt K mg a_is_whole a_own a_own_list a_are_wholes a_is_row a_is_room a_is_table a_Mode_init a_is_mode a_is_push a_Thing_init a_Thing_pushes a_Thing_modes a_Thing_is_closed a_Rule_counted a_Straight_init a_Straight_fits a_Straight_cut a_Stopped_init a_Stopped_fits a_Stopped_counted a_Stopped_cut a_stops_of a_Parted_init a_Parted_fits a_Parted_counted a_Parted_cut a_pieces a_scaled a_summed a_put_in a_steered a_misread a_rounded a_wider a_put_late a_late a__law_cell_at a__law_stream a__law_number a__law_parts a__law_straight a__law_rule a__law_scaled a__law_put a__law_put_late a__law_told a__law_right a_law C_BadThing C_TooMany C_Mode C_Thing C_Rule C_Straight C_Stopped C_Parted) (D__law_cell_at : FD P w K mg base 1 a__law_cell_at 2 [] g__law_cell_at) (D__law_stream : FD P w K mg base 1 a__law_stream 2 [] g__law_stream) (D__law_number : FD P w K mg base 1 a__law_number 1 [] g__law_number) (D__law_straight : FD P w K mg base 4 a__law_straight 2 [] (g__law_straight C_Straight)) (I_Parted : FI P w K mg base 1 C_Parted 4 [] g_Parted_init) (I_Stopped : FI P w K mg base 1 C_Stopped 4 [] g_Stopped_init)
    {f : Addr} {cdv : Value} {A : Around} {outer : List Env} {s : Shared} {H : Hp} {E : XK} (hr : Room 4 (A.deeper (envOfC "_law_rule" (defScope s__law_rule) s.heap.objs.size f cdv))) :
    RSs (cxOf (L2.CX P w) P w K mg base N__law_rule "_law_rule" (defScope s__law_rule) f cdv A outer s H E) (WF E) (defBody s__law_rule) (tb__law_rule C_Straight C_Stopped C_Parted) :=
  (rss_cons (rs_set 2 sc__law_rule.nd (re_call D__law_straight (hr.mono (by decide)) T.f__law_straight (takes_of rfl rfl rfl rfl) (ra_cons (re_call D__law_cell_at (hr.mono (by decide)) T.f__law_cell_at (takes_of rfl rfl rfl rfl) (ra_cons (re_var 0) (ra_cons re_int ra_nil))) (ra_cons (re_var 1) ra_nil)))) (rss_cons (rs_for (passes_of rfl) (ri_range2 (RE.p re_int) (RE.p (re_callB cd_len T.b_len (rpa_cons (rp_var 0) rpa_nil))) T.b_range) (rg_name 3 sc__law_rule.nd) (rss_cons (rs_set 4 sc__law_rule.nd (re_call D__law_stream (hr.mono (by decide)) T.f__law_stream (takes_of rfl rfl rfl rfl) (ra_cons (re_ix ixd_seq (rp_var 0) (rp_var 3)) (ra_cons re_int ra_nil)))) (rss_one (rs_if (RW.toT (rw_and (rt_cmp (opd_eq hr.units) (RE.p (re_op opd_mod (RE.p (re_ix ixd_seq (rp_var 4) (RE.p re_int))) (RE.p re_int))) (RE.p re_int)) (rw_and1 (rt_cmp opd_lt (rp_var 3) (RE.p re_int))))) (rss_one (rs_set 2 sc__law_rule.nd (re_make I_Stopped (hr.mono (by decide)) T.c_Stopped (takes_of rfl rfl rfl rfl) (ra_cons (re_var 2) (ra_cons (re_op opd_sub (RE.p (re_op opd_mod (RE.p (re_ix ixd_seq (rp_var 4) (RE.p re_int))) (RE.p re_int))) (RE.p re_int)) (ra_cons (re_op opd_mod (RE.p (re_ix ixd_seq (rp_var 4) (RE.p re_int))) (RE.p re_int)) ra_nil)))))) (rss_cons (rs_set 5 sc__law_rule.nd (re_call D__law_straight (hr.mono (by decide)) T.f__law_straight (takes_of rfl rfl rfl rfl) (ra_cons (re_op opd_div (RE.p (re_ix ixd_seq (rp_var 0) (rp_var 3))) (RE.p re_int)) (ra_cons (re_var 1) ra_nil)))) (rss_cons (rs_set 6 sc__law_rule.nd (re_callTy cd_tuple T.b_tuple (rpa_cons (RE.p (by exact (RN.e (rn_lc sc__law_rule.nd (ri_seq (re_slice (rp_var 4) ro_none (ro_some (RE.p (re_op opd_add (rp_var 1) (RE.p re_int)))))) (blkOk_by (own := [("_law_number_here", 7)]) (N := N__law_rule) (sc := (defScope s__law_rule)) (by decide +kernel)) (fun _ _ _ _ _ => (rg_name 7 sc__law_rule.nd)) (fun _ _ _ _ _ => rts_nil) (fun _ _ _ _ _ => (re_call D__law_number (hr.mono (by decide)) T.f__law_number takes0 (ra_cons (re_var 7) ra_nil))))))) rpa_nil))) (rss_one (rs_set 2 sc__law_rule.nd (re_make I_Parted (hr.mono (by decide)) T.c_Parted (takes_of rfl rfl rfl rfl) (ra_cons (re_var 6) (ra_cons (re_ix ixd_seq (RE.p (re_lst (ra_cons (re_var 2) (ra_cons (re_var 5) ra_nil)))) (RE.p (re_op opd_mod (RE.p (re_ix ixd_seq (rp_var 4) (RE.p re_int))) (RE.p re_int)))) (ra_cons (re_ix ixd_seq (RE.p (re_lst (ra_cons (re_var 5) (ra_cons (re_var 2) ra_nil)))) (RE.p (re_op opd_mod (RE.p (re_ix ixd_seq (rp_var 4) (RE.p re_int))) (RE.p re_int)))) ra_nil)))))))))))) (rss_one (rs_ret (re_var 2)))))
/-! ### _law_scaled -/
abbrev s__law_scaled : Stmt := topS 56
abbrev N__law_scaled : List Str := ["_law_numbers", "_law_by", "_law_number_here"]
abbrev g__law_scaled : DF := g_scaled
abbrev tb__law_scaled  : DS := tb_scaled
theorem rd__law_scaled  (ds : List D) (Q E : EQ) (h1 : ds.length = 2) (h2 : g__law_scaled ds Q E) : tb__law_scaled (dE Q E) (startD N__law_scaled ds) := rd_scaled ds Q E h1 h2
theorem sc__law_scaled : FnScope N__law_scaled ["_law_numbers", "_law_by"] (defScope s__law_scaled) := ⟨rfl, rfl, rfl, by decide +kernel, rfl, by decide +kernel, by decide +kernel⟩
theorem der__law_scaled (T : Txt K mg a_is_whole a_own a_own_list a_are_wholes a_is_row a_is_room a_is_table a_Mode_init a_is_mode a_is_push a_Thing_init a_Thing_pushes a_Thing_modes a_Thing_is_closed a_Rule_counted a_Straight_init a_Straight_fits a_Straight_cut a_Stopped_init a_Stopped_fits a_Stopped_counted a_Stopped_cut a_stops_of a_Parted_init a_Parted_fits a_Parted_counted a_Parted_cut a_pieces a_scaled a_summed a_put_in a_steered a_misread a_rounded a_wider a_put_late a_late a__law_cell_at a__law_stream a__law_number a__law_parts a__law_straight a__law_rule a__law_scaled a__law_put a__law_put_late a__law_told a__law_right a_law C_BadThing C_TooMany C_Mode C_Thing C_Rule C_Straight C_Stopped C_Parted) 
    {f : Addr} {cdv : Value} {A : Around} {outer : List Env} {s : Shared} {H : Hp} {E : XK} (hr : Room 0 (A.deeper (envOfC "_law_scaled" (defScope s__law_scaled) s.heap.objs.size f cdv))) :
    RSs (cxOf (L2.CX P w) P w K mg base N__law_scaled "_law_scaled" (defScope s__law_scaled) f cdv A outer s H E) (WF E) (defBody s__law_scaled) (tb__law_scaled) :=
  (rss_one (rs_ret (by exact (RN.e (rn_lc sc__law_scaled.nd (ri_seq (re_var 0)) (blkOk_by (own := [("_law_number_here", 2)]) (N := N__law_scaled) (sc := (defScope s__law_scaled)) (by decide +kernel)) (fun _ _ _ _ _ => (rg_name 2 sc__law_scaled.nd)) (fun _ _ _ _ _ => rts_nil) (fun _ _ _ _ _ => (re_op opd_mul (rp_var 1) (rp_var 2))))))))
/-! ### _law_put -/
abbrev s__law_put : Stmt := topS 57
abbrev N__law_put : List Str := ["_law_parts_here", "_law_rows", "_law_straight_here", "_law_old", "_law_nexts", "_law_steer", "_law_push", "_law_add", "_law_divisor", "_law_numbers", "_law_more", "_law_by", "_law_many", "_law_table", "_law_j", "_law_i", "_law_sums", "_law_one"]
theorem sc__law_put : FnScope N__law_put ["_law_parts_here", "_law_rows", "_law_straight_here"] (defScope s__law_put) := ⟨rfl, rfl, rfl, by decide +kernel, rfl, by decide +kernel, by decide +kernel⟩
def tb__law_put  : DS :=
  (dSq (dAsg (dVar 0) (gTq 6 (gCs (gNm 3) (gCs (gNm 4) (gCs (gNm 5) (gCs (gNm 6) (gCs (gNm 7) (gCs (gNm 8) gNl)))))))) (dSq (dAsg (dVar 2) (gTq 3 (gCs (gNm 9) (gCs (gNm 10) (gCs (gNm 11) gNl))))) (dSq (dSet 12 (dCB kLen (dCons (dVarP 4) dNil))) (dSq (dSet 13 (dLc (dRng1 (dVarP 12)) (gNm 15) dYes (dFz (dLcN (dRng1 (dVarP 12)) (gNm 14) dYes (dOp kAdd (dOp kMul (dVarP 11) (dOp kIx (dOp kIx (dVarP 4) (dVarP 15)) (dVarP 14))) (dOp kMul (dOp kIx (dVarP 5) (dVarP 15)) (dOp kIx (dVarP 9) (dVarP 14)))) [14])) [15])) (dSq (dSet 16 (dLc (dRng1 (dVarP 12)) (gNm 15) dYes (dOp kAdd (dOp kMul (dVarP 11) (dOp kIx (dVarP 7) (dVarP 15))) (dOp kMul (dOp kIx (dVarP 5) (dVarP 15)) (dVarP 10))) [15])) (dRetN1 (dLstN (dCons (dOp kAdd (dVarP 3) (dVarP 1)) (dCons (dVar 13) (dCons (dOp kMul (dLst (dCons (dC (.int 0)) dNil)) (dVarP 12)) (dCons (dFz (dLcN (dSeq (dVar 6)) (gNm 17) dYes (dCall 2 [] g__law_scaled (dCons (dVar 17) (dCons (dVar 11) dNil))) [17])) (dCons (dVar 16) (dCons (dOp kMul (dVarP 11) (dVarP 8)) dNil)))))))))))))
theorem der__law_put (T : Txt K mg a_is_whole a_own a_own_list a_are_wholes a_is_row a_is_room a_is_table a_Mode_init a_is_mode a_is_push a_Thing_init a_Thing_pushes a_Thing_modes a_Thing_is_closed a_Rule_counted a_Straight_init a_Straight_fits a_Straight_cut a_Stopped_init a_Stopped_fits a_Stopped_counted a_Stopped_cut a_stops_of a_Parted_init a_Parted_fits a_Parted_counted a_Parted_cut a_pieces a_scaled a_summed a_put_in a_steered a_misread a_rounded a_wider a_put_late a_late a__law_cell_at a__law_stream a__law_number a__law_parts a__law_straight a__law_rule a__law_scaled a__law_put a__law_put_late a__law_told a__law_right a_law C_BadThing C_TooMany C_Mode C_Thing C_Rule C_Straight C_Stopped C_Parted) (D__law_scaled : FD P w K mg base 1 a__law_scaled 2 [] g__law_scaled)
    {f : Addr} {cdv : Value} {A : Around} {outer : List Env} {s : Shared} {H : Hp} {E : XK} (hr : Room 1 (A.deeper (envOfC "_law_put" (defScope s__law_put) s.heap.objs.size f cdv))) :
    RSs (cxOf (L2.CX P w) P w K mg base N__law_put "_law_put" (defScope s__law_put) f cdv A outer s H E) (WF E) (defBody s__law_put) (tb__law_put) :=
  (rss_cons (rs_asg (re_var 0) (rg_tuq (rgs_cons (rg_name 3 sc__law_put.nd) (rgs_cons (rg_name 4 sc__law_put.nd) (rgs_cons (rg_name 5 sc__law_put.nd) (rgs_cons (rg_name 6 sc__law_put.nd) (rgs_cons (rg_name 7 sc__law_put.nd) (rgs_cons (rg_name 8 sc__law_put.nd) rgs_nil)))))))) (rss_cons (rs_asg (re_var 2) (rg_tuq (rgs_cons (rg_name 9 sc__law_put.nd) (rgs_cons (rg_name 10 sc__law_put.nd) (rgs_cons (rg_name 11 sc__law_put.nd) rgs_nil))))) (rss_cons (rs_set 12 sc__law_put.nd (re_callB cd_len T.b_len (rpa_cons (rp_var 4) rpa_nil))) (rss_cons (rs_setLc 13 sc__law_put.nd (ri_range1 (rp_var 12) T.b_range) (blkOk_by (own := [("_law_i", 15)]) (N := N__law_put) (sc := (defScope s__law_put)) (by decide +kernel)) (fun _ _ _ _ _ => (rg_name 15 sc__law_put.nd)) (fun _ _ _ _ _ => rts_nil) (fun _ _ _ _ _ => (by exact (RN.e (rn_lc sc__law_put.nd (ri_range1 (rp_var 12) T.b_range) (blkOk_by (own := [("_law_j", 14)]) (N := N__law_put) (by rfl)) (fun _ _ _ _ _ => (rg_name 14 sc__law_put.nd)) (fun _ _ _ _ _ => rts_nil) (fun _ _ _ _ _ => (re_op opd_add (RE.p (re_op opd_mul (rp_var 11) (RE.p (re_ix ixd_seq (RE.p (re_ix ixd_seq (rp_var 4) (rp_var 15))) (rp_var 14))))) (RE.p (re_op opd_mul (RE.p (re_ix ixd_seq (rp_var 5) (rp_var 15))) (RE.p (re_ix ixd_seq (rp_var 9) (rp_var 14))))))))))) (sw_true rfl rfl rfl (by decide +kernel))) (rss_cons (rs_setLc 16 sc__law_put.nd (ri_range1 (rp_var 12) T.b_range) (blkOk_by (own := [("_law_i", 15)]) (N := N__law_put) (sc := (defScope s__law_put)) (by decide +kernel)) (fun _ _ _ _ _ => (rg_name 15 sc__law_put.nd)) (fun _ _ _ _ _ => rts_nil) (fun _ _ _ _ _ => (re_op opd_add (RE.p (re_op opd_mul (rp_var 11) (RE.p (re_ix ixd_seq (rp_var 7) (rp_var 15))))) (RE.p (re_op opd_mul (RE.p (re_ix ixd_seq (rp_var 5) (rp_var 15))) (rp_var 10))))) (sw_true rfl rfl rfl (by decide +kernel))) (rss_one (rs_retN1 (rn_lst (ra_cons (re_op opd_add (rp_var 3) (rp_var 1)) (ra_cons (re_var 13) (ra_cons (re_op opd_mul (RE.p (re_lst (ra_cons re_int ra_nil))) (rp_var 12)) (ra_cons (by exact (RN.e (rn_lc sc__law_put.nd (ri_seq (re_var 6)) (blkOk_by (own := [("_law_one", 17)]) (N := N__law_put) (sc := (defScope s__law_put)) (by decide +kernel)) (fun _ _ _ _ _ => (rg_name 17 sc__law_put.nd)) (fun _ _ _ _ _ => rts_nil) (fun _ _ _ _ _ => (re_call D__law_scaled (hr.mono (by decide)) T.f__law_scaled takes0 (ra_cons (re_var 17) (ra_cons (re_var 11) ra_nil))))))) (ra_cons (re_var 16) (ra_cons (re_op opd_mul (rp_var 11) (rp_var 8)) ra_nil))))))))))))))
/-! ### _law_put_late -/
abbrev s__law_put_late : Stmt := topS 58
abbrev N__law_put_late : List Str := ["_law_parts_here", "_law_rows", "_law_straight_here", "_law_old", "_law_nexts", "_law_steer", "_law_push", "_law_add", "_law_divisor", "_law_numbers", "_law_more", "_law_by", "_law_many", "_law_wide", "_law_row", "_law_table", "_law_i", "_law_pushed", "_law_one"]
theorem sc__law_put_late : FnScope N__law_put_late ["_law_parts_here", "_law_rows", "_law_straight_here"] (defScope s__law_put_late) := ⟨rfl, rfl, rfl, by decide +kernel, rfl, by decide +kernel, by decide +kernel⟩
def tb__law_put_late  : DS :=
  (dSq (dAsg (dVar 0) (gTq 6 (gCs (gNm 3) (gCs (gNm 4) (gCs (gNm 5) (gCs (gNm 6) (gCs (gNm 7) (gCs (gNm 8) gNl)))))))) (dSq (dAsg (dVar 2) (gTq 3 (gCs (gNm 9) (gCs (gNm 10) (gCs (gNm 11) gNl))))) (dSq (dSet 12 (dCB kLen (dCons (dVarP 4) dNil))) (dSq (dSet 13 (dLc (dSeq (dOp kAdd (dVarP 3) (dVarP 1))) (gNm 14) dYes (dOp kAdd (dSl (dVarP 14) dNoPart (dPart (dNeg (dC (.int 1))))) (dTup (dCons (dC (.int 0)) (dCons (dOp kIx (dVarP 14) (dNeg (dC (.int 1)))) dNil)))) [14])) (dSq (dOwn 15 (dLcN (dRng1 (dVarP 12)) (gNm 16) dYes (dOp kAdd (dCall 2 [] g__law_scaled (dCons (dOp kIx (dVarP 4) (dVarP 16)) (dCons (dVar 11) dNil))) (dLst (dCons (dOp kMul (dVarP 11) (dOp kIx (dVarP 5) (dVarP 16))) dNil))) [16])) (dSq (dApp 15 (dOp kAdd (dCall 2 [] g__law_scaled (dCons (dVar 9) (dCons (dVar 8) dNil))) (dLst (dCons (dC (.int 0)) dNil)))) (dSq (dSet 17 (dOp kAdd (dFz (dLcN (dSeq (dVar 6)) (gNm 18) dYes (dCall 2 [] g__law_scaled (dCons (dVar 18) (dCons (dVar 11) dNil))) [18])) (dLst (dCons (dOp kMul (dLst (dCons (dC (.int 0)) dNil)) (dCB kLen (dCons (dOp kIx (dVarP 6) (dC (.int 0))) dNil))) dNil)))) (dFrz 15 (dRet (dLst (dCons (dVar 13) (dCons (dVar 15) (dCons (dOp kMul (dLst (dCons (dC (.int 0)) dNil)) (dOp kAdd (dVarP 12) (dC (.int 1)))) (dCons (dVar 17) (dCons (dOp kAdd (dCall 2 [] g__law_scaled (dCons (dVar 7) (dCons (dVar 11) dNil))) (dLst (dCons (dOp kMul (dVarP 8) (dVarP 10)) dNil))) (dCons (dOp kMul (dVarP 11) (dVarP 8)) dNil))))))))))))))))
theorem der__law_put_late (T : Txt K mg a_is_whole a_own a_own_list a_are_wholes a_is_row a_is_room a_is_table a_Mode_init a_is_mode a_is_push a_Thing_init a_Thing_pushes a_Thing_modes a_Thing_is_closed a_Rule_counted a_Straight_init a_Straight_fits a_Straight_cut a_Stopped_init a_Stopped_fits a_Stopped_counted a_Stopped_cut a_stops_of a_Parted_init a_Parted_fits a_Parted_counted a_Parted_cut a_pieces a_scaled a_summed a_put_in a_steered a_misread a_rounded a_wider a_put_late a_late a__law_cell_at a__law_stream a__law_number a__law_parts a__law_straight a__law_rule a__law_scaled a__law_put a__law_put_late a__law_told a__law_right a_law C_BadThing C_TooMany C_Mode C_Thing C_Rule C_Straight C_Stopped C_Parted) (D__law_scaled : FD P w K mg base 1 a__law_scaled 2 [] g__law_scaled)
    {f : Addr} {cdv : Value} {A : Around} {outer : List Env} {s : Shared} {H : Hp} {E : XK} (hr : Room 1 (A.deeper (envOfC "_law_put_late" (defScope s__law_put_late) s.heap.objs.size f cdv))) :
    RSs (cxOf (L2.CX P w) P w K mg base N__law_put_late "_law_put_late" (defScope s__law_put_late) f cdv A outer s H E) (WF E) (defBody s__law_put_late) (tb__law_put_late) :=
  (rss_cons (rs_asg (re_var 0) (rg_tuq (rgs_cons (rg_name 3 sc__law_put_late.nd) (rgs_cons (rg_name 4 sc__law_put_late.nd) (rgs_cons (rg_name 5 sc__law_put_late.nd) (rgs_cons (rg_name 6 sc__law_put_late.nd) (rgs_cons (rg_name 7 sc__law_put_late.nd) (rgs_cons (rg_name 8 sc__law_put_late.nd) rgs_nil)))))))) (rss_cons (rs_asg (re_var 2) (rg_tuq (rgs_cons (rg_name 9 sc__law_put_late.nd) (rgs_cons (rg_name 10 sc__law_put_late.nd) (rgs_cons (rg_name 11 sc__law_put_late.nd) rgs_nil))))) (rss_cons (rs_set 12 sc__law_put_late.nd (re_callB cd_len T.b_len (rpa_cons (rp_var 4) rpa_nil))) (rss_cons (rs_setLc 13 sc__law_put_late.nd (ri_seq (re_op opd_add (rp_var 3) (rp_var 1))) (blkOk_by (own := [("_law_row", 14)]) (N := N__law_put_late) (sc := (defScope s__law_put_late)) (by decide +kernel)) (fun _ _ _ _ _ => (rg_name 14 sc__law_put_late.nd)) (fun _ _ _ _ _ => rts_nil) (fun _ _ _ _ _ => (re_op opd_add (RE.p (re_slice (rp_var 14) ro_none (ro_some (RE.p (re_neg (RE.p re_int)))))) (RE.p (re_tup (ra_cons re_int (ra_cons (re_ix ixd_seq (rp_var 14) (RE.p (re_neg (RE.p re_int)))) ra_nil)))))) (sw_true rfl rfl rfl (by decide +kernel))) (rss_cons (rs_ownLc 15 sc__law_put_late.nd (ri_range1 (rp_var 12) T.b_range) (blkOk_by (own := [("_law_i", 16)]) (N := N__law_put_late) (sc := (defScope s__law_put_late)) (by decide +kernel)) (fun _ _ _ _ _ => (rg_name 16 sc__law_put_late.nd)) (fun _ _ _ _ _ => rts_nil) (fun _ _ _ _ _ => (re_op opd_add (RE.p (re_call D__law_scaled (hr.mono (by decide)) T.f__law_scaled takes0 (ra_cons (re_ix ixd_seq (rp_var 4) (rp_var 16)) (ra_cons (re_var 11) ra_nil)))) (RE.p (re_lst (ra_cons (re_op opd_mul (rp_var 11) (RE.p (re_ix ixd_seq (rp_var 5) (rp_var 16)))) ra_nil))))) (sw_true rfl rfl rfl (by decide +kernel))) (rss_cons (rs_app 15 (re_op opd_add (RE.p (re_call D__law_scaled (hr.mono (by decide)) T.f__law_scaled (takes_of rfl rfl rfl rfl) (ra_cons (re_var 9) (ra_cons (re_var 8) ra_nil)))) (RE.p (re_lst (ra_cons re_int ra_nil))))) (rss_cons (rs_set 17 sc__law_put_late.nd (re_op opd_add (RE.p (by exact (RN.e (rn_lc sc__law_put_late.nd (ri_seq (re_var 6)) (blkOk_by (own := [("_law_one", 18)]) (N := N__law_put_late) (sc := (defScope s__law_put_late)) (by decide +kernel)) (fun _ _ _ _ _ => (rg_name 18 sc__law_put_late.nd)) (fun _ _ _ _ _ => rts_nil) (fun _ _ _ _ _ => (re_call D__law_scaled (hr.mono (by decide)) T.f__law_scaled takes0 (ra_cons (re_var 18) (ra_cons (re_var 11) ra_nil)))))))) (RE.p (re_lst (ra_cons (re_op opd_mul (RE.p (re_lst (ra_cons re_int ra_nil))) (RE.p (re_callB cd_len T.b_len (rpa_cons (RE.p (re_ix ixd_seq (rp_var 6) (RE.p re_int))) rpa_nil)))) ra_nil))))) (rss_frz 15 (rss_one (rs_ret (re_lst (ra_cons (re_var 13) (ra_cons (re_var 15) (ra_cons (re_op opd_mul (RE.p (re_lst (ra_cons re_int ra_nil))) (RE.p (re_op opd_add (rp_var 12) (RE.p re_int)))) (ra_cons (re_var 17) (ra_cons (re_op opd_add (RE.p (re_call D__law_scaled (hr.mono (by decide)) T.f__law_scaled (takes_of rfl rfl rfl rfl) (ra_cons (re_var 7) (ra_cons (re_var 11) ra_nil)))) (RE.p (re_lst (ra_cons (re_op opd_mul (rp_var 8) (rp_var 10)) ra_nil)))) (ra_cons (re_op opd_mul (rp_var 11) (rp_var 8)) ra_nil)))))))))))))))))
/-! ### _law_told -/
abbrev s__law_told : Stmt := topS 59
abbrev N__law_told : List Str := ["_law_thing", "_law_found", "_law_mode"]
theorem sc__law_told : FnScope N__law_told ["_law_thing"] (defScope s__law_told) := ⟨rfl, rfl, rfl, by decide +kernel, rfl, by decide +kernel, by decide +kernel⟩
def tb__law_told (K : PySem.W.Frag) (C_Thing : Addr) : DS :=
  (dSq (dOwn 1 (dLstN dNil)) (dSq (dFor (dSeq (dMeth C_Thing "modes" 1 (g_Thing_modes C_Thing) (dVar 0) dNil)) (gNm 2) (dApp 1 (dLst (dCons (dFld K "rows" (dVar 2)) (dCons (dFld K "nexts" (dVar 2)) (dCons (dFld K "steer" (dVar 2)) (dCons (dFld K "push" (dVar 2)) (dCons (dFld K "add" (dVar 2)) (dCons (dFld K "divisor" (dVar 2)) dNil))))))))) (dFrz 1 (dRet (dVar 1)))))
theorem der__law_told (T : Txt K mg a_is_whole a_own a_own_list a_are_wholes a_is_row a_is_room a_is_table a_Mode_init a_is_mode a_is_push a_Thing_init a_Thing_pushes a_Thing_modes a_Thing_is_closed a_Rule_counted a_Straight_init a_Straight_fits a_Straight_cut a_Stopped_init a_Stopped_fits a_Stopped_counted a_Stopped_cut a_stops_of a_Parted_init a_Parted_fits a_Parted_counted a_Parted_cut a_pieces a_scaled a_summed a_put_in a_steered a_misread a_rounded a_wider a_put_late a_late a__law_cell_at a__law_stream a__law_number a__law_parts a__law_straight a__law_rule a__law_scaled a__law_put a__law_put_late a__law_told a__law_right a_law C_BadThing C_TooMany C_Mode C_Thing C_Rule C_Straight C_Stopped C_Parted) (M_Thing_modes : FN P w K mg base 1 a_Thing_modes 1 (g_Thing_modes C_Thing))
    {f : Addr} {cdv : Value} {A : Around} {outer : List Env} {s : Shared} {H : Hp} {E : XK} (hr : Room 1 (A.deeper (envOfC "_law_told" (defScope s__law_told) s.heap.objs.size f cdv))) :
    RSs (cxOf (L2.CX P w) P w K mg base N__law_told "_law_told" (defScope s__law_told) f cdv A outer s H E) (WF E) (defBody s__law_told) (tb__law_told K C_Thing) :=
  (rss_cons (rs_own 1 sc__law_told.nd (rn_lst ra_nil)) (rss_cons (rs_for (passes_of rfl) (ri_seq (re_meth0 (re_var 0) T.l_Thing T.m_Thing_modes M_Thing_modes (hr.mono (by decide)) (takes_of rfl rfl rfl rfl))) (rg_name 2 sc__law_told.nd) (rss_one (rs_app 1 (re_lst (ra_cons (re_fld (K := K) (re_var 2)) (ra_cons (re_fld (K := K) (re_var 2)) (ra_cons (re_fld (K := K) (re_var 2)) (ra_cons (re_fld (K := K) (re_var 2)) (ra_cons (re_fld (K := K) (re_var 2)) (ra_cons (re_fld (K := K) (re_var 2)) ra_nil)))))))))) (rss_frz 1 (rss_one (rs_ret (re_var 1))))))
/-! ### _law_right -/
abbrev s__law_right : Stmt := topS 60
abbrev N__law_right : List Str := ["_law_thing", "_law_many", "_law_pushes", "_law_due"]
theorem sc__law_right : FnScope N__law_right ["_law_thing", "_law_many", "_law_pushes", "_law_due"] (defScope s__law_right) := ⟨rfl, rfl, rfl, by decide +kernel, rfl, by decide +kernel, by decide +kernel⟩
def tb__law_right (K : PySem.W.Frag) (C_Thing C_Mode : Addr) : DS :=
  (dSq (dIf (dOr (dNot (dTest (dCB (kIsi K) (dCons (dVarP 0) (dCons (dC (.cls C_Thing)) dNil))))) (dOr (dTest (dOp kNe (dFld K "many" (dVar 0)) (dVarP 1))) (dOr (dTest (dOp kNe (dMeth C_Thing "pushes" 1 (g_Thing_pushes C_Thing) (dVar 0) dNil) (dVarP 2))) (dTest (dOp kIsNot (dMeth C_Thing "is_closed" 1 (g_Thing_is_closed C_Mode C_Thing) (dVar 0) dNil) (dC (.bl true))))))) (dRet (dC (.bl false))) dNext) (dRet (dOp kEq (dCall 1 [] (g__law_told C_Mode C_Thing) (dCons (dVar 0) dNil)) (dVarP 3))))
theorem der__law_right (T : Txt K mg a_is_whole a_own a_own_list a_are_wholes a_is_row a_is_room a_is_table a_Mode_init a_is_mode a_is_push a_Thing_init a_Thing_pushes a_Thing_modes a_Thing_is_closed a_Rule_counted a_Straight_init a_Straight_fits a_Straight_cut a_Stopped_init a_Stopped_fits a_Stopped_counted a_Stopped_cut a_stops_of a_Parted_init a_Parted_fits a_Parted_counted a_Parted_cut a_pieces a_scaled a_summed a_put_in a_steered a_misread a_rounded a_wider a_put_late a_late a__law_cell_at a__law_stream a__law_number a__law_parts a__law_straight a__law_rule a__law_scaled a__law_put a__law_put_late a__law_told a__law_right a_law C_BadThing C_TooMany C_Mode C_Thing C_Rule C_Straight C_Stopped C_Parted) (D__law_told : FD P w K mg base 2 a__law_told 1 [] (g__law_told C_Mode C_Thing)) (M_Thing_is_closed : FN P w K mg base 1 a_Thing_is_closed 1 (g_Thing_is_closed C_Mode C_Thing)) (M_Thing_pushes : FN P w K mg base 1 a_Thing_pushes 1 (g_Thing_pushes C_Thing))
    {f : Addr} {cdv : Value} {A : Around} {outer : List Env} {s : Shared} {H : Hp} {E : XK} (hr : Room 2 (A.deeper (envOfC "_law_right" (defScope s__law_right) s.heap.objs.size f cdv))) :
    RSs (cxOf (L2.CX P w) P w K mg base N__law_right "_law_right" (defScope s__law_right) f cdv A outer s H E) (WF E) (defBody s__law_right) (tb__law_right K C_Thing C_Mode) :=
  (rss_cons (rs_if (RW.toT (rw_or (rt_not (rt_val (RE.p (re_callB (cd_isi (K := K)) T.b_isinstance (rpa_cons (rp_var 0) (rpa_cons (RE.p (re_glob T.c_Thing rfl)) rpa_nil)))))) (rw_or (rt_cmp (opd_ne hr.units) (RE.p (re_fld (K := K) (re_var 0))) (rp_var 1)) (rw_or (rt_cmp (opd_ne hr.units) (RE.p (re_meth0 (re_var 0) T.l_Thing T.m_Thing_pushes M_Thing_pushes (hr.mono (by decide)) (takes_of rfl rfl rfl rfl))) (rp_var 2)) (rw_or1 (rt_cmp opd_isnot (RE.p (re_meth0 (re_var 0) T.l_Thing T.m_Thing_is_closed M_Thing_is_closed (hr.mono (by decide)) (takes_of rfl rfl rfl rfl))) (RE.p re_bl))))))) (rss_one (rs_ret re_bl)) rss_nil) (rss_one (rs_ret (re_cmp (opd_eq hr.units) (RE.p (re_call D__law_told (hr.mono (by decide)) T.f__law_told (takes_of rfl rfl rfl rfl) (ra_cons (re_var 0) ra_nil))) (rp_var 3)))))
/-! ### law -/
abbrev s_law : Stmt := topS 61
abbrev N_law : List Str := ["_law_script", "_law_cell", "_law_many", "_law_wide", "_law_some", "_law_k", "_law_pushes", "_law_thing", "_law_one", "_law_rule_here", "_law_told_here", "_law_rows", "_law_straight_here", "_law_due", "_law_behind", "_law_parts_here", "_law_leaf", "_law_size", "_law_i"]
theorem sc_law : FnScope N_law ["_law_script"] (defScope s_law) := ⟨rfl, rfl, rfl, by decide +kernel, rfl, by decide +kernel, by decide +kernel⟩
def tb_law (K : PySem.W.Frag) (C_Thing C_Mode C_BadThing C_TooMany C_Straight C_Stopped C_Parted : Addr) : DS :=
  (dSq (dSet 1 (dCall 2 [] g__law_cell_at (dCons (dVar 0) (dCons (dC (.int 0)) dNil)))) (dSq (dSet 2 (dOp kAdd (dC (.int 1)) (dOp kMod (dVarP 1) (dC (.int 3))))) (dSq (dSet 3 (dOp kMod (dOp kDiv (dVarP 1) (dC (.int 3))) (dC (.int 4)))) (dSq (dSet 4 (dLc (dRng1 (dOp kAdd (dC (.int 1)) (dOp kMod (dOp kDiv (dVarP 1) (dC (.int 12))) (dC (.int 3))))) (gNm 5) dYes (dCall 3 [] g__law_parts (dCons (dOp kAdd (dCall 2 [] g__law_cell_at (dCons (dVar 0) (dCons (dOp kAdd (dC (.int 1)) (dVarP 5)) dNil))) (dOp kMul (dC (.int 7919)) (dVarP 5))) (dCons (dVar 2) (dCons (dVar 3) dNil)))) [5])) (dSq (dSet 6 (dLc (dRng1 (dVarP 3)) (gNm 5) dYes (dTup (dCons (dOp kSub (dOp kSub (dC (.int 0)) (dVarP 5)) (dOp kMod (dOp kDiv (dVarP 1) (dC (.int 36))) (dC (.int 5)))) (dCons (dOp kMul (dVarP 5) (dVarP 5)) dNil))) [5])) (dSq (dSet 7 (dMake 4 C_Thing [] (g_Thing_init C_Mode C_BadThing C_TooMany) (dCons (dVar 2) (dCons (dCB kList (dCons (dVarP 6) dNil)) (dCons (dFz (dLcN (dSeq (dVar 4)) (gNm 8) dYes (dMake 7 C_Mode [] g_Mode_init (dCons (dOp kIx (dVarP 8) (dC (.int 0))) (dCons (dOp kIx (dVarP 8) (dC (.int 1))) (dCons (dOp kIx (dVarP 8) (dC (.int 2))) (dCons (dOp kIx (dVarP 8) (dC (.int 3))) (dCons (dOp kIx (dVarP 8) (dC (.int 4))) (dCons (dOp kIx (dVarP 8) (dC (.int 5))) dNil))))))) [8])) dNil))))) (dSq (dSet 9 (dCall 2 [] (g__law_rule C_Straight C_Stopped C_Parted) (dCons (dSl (dVarP 0) (dPart (dC (.int 4))) (dPart (dOp kAdd (dC (.int 5)) (dOp kMod (dOp kDiv (dVarP 1) (dC (.int 36))) (dC (.int 4)))))) (dCons (dVar 2) dNil)))) (dSq (dSet 10 (dLc (dSeq (dCall 2 [] (g_pieces C_Straight C_Stopped C_Parted) (dCons (dVar 9) (dCons (dVar 2) dNil)))) (gTp 2 (gCs (gNm 11) (gCs (gNm 12) gNl))) dYes (dTup (dCons (dVar 11) (dCons (dTup (dCons (dFld K "numbers" (dVar 12)) (dCons (dFld K "add" (dVar 12)) (dCons (dFld K "divisor" (dVar 12)) dNil)))) dNil))) [11, 12])) (dSq (dOwn 13 (dLstN dNil)) (dSq (dSet 14 (dLst dNil)) (dSq (dFor (dSeq (dVar 4)) (gNm 15) (dSq (dOwn 13 (dAddN (dVarP 13) (dFz (dLcN (dSeq (dVar 10)) (gTp 2 (gCs (gNm 11) (gCs (gNm 12) gNl))) dYes (dFz (dCallN 3 g__law_put (dCons (dVar 15) (dCons (dVar 11) (dCons (dVar 12) dNil))))) [11, 12])))) (dSet 14 (dOp kAdd (dVarP 14) (dFz (dLcN (dSeq (dVar 10)) (gTp 2 (gCs (gNm 11) (gCs (gNm 12) gNl))) dYes (dCall 3 [] g__law_put_late (dCons (dVar 15) (dCons (dVar 11) (dCons (dVar 12) dNil)))) [11, 12])))))) (dFrz 13 (dSq (dIf (dNot (dTest (dCall 4 [] (g__law_right C_Mode C_Thing) (dCons (dCall 2 [] (g_steered C_Straight C_Stopped C_Parted C_Mode C_Thing) (dCons (dVar 7) (dCons (dVar 9) dNil))) (dCons (dVar 2) (dCons (dVar 6) (dCons (dVar 13) dNil))))))) (dRet (dC (.bl false))) dNext) (dSq (dIf (dAnd (dTest (dOp kLt (dVarP 2) (dC (.int 3)))) (dNot (dTest (dCall 4 [] (g__law_right C_Mode C_Thing) (dCons (dCall 2 [] (g_late C_Straight C_Stopped C_Parted C_Mode C_Thing) (dCons (dVar 7) (dCons (dVar 9) dNil))) (dCons (dOp kAdd (dVarP 2) (dC (.int 1))) (dCons (dVar 6) (dCons (dVar 14) dNil)))))))) (dRet (dC (.bl false))) dNext) (dSq (dSet 16 (dCall 2 [] (g__law_straight C_Straight) (dCons (dCall 2 [] g__law_cell_at (dCons (dVar 0) (dCons (dC (.int 10)) dNil))) (dCons (dVar 2) dNil)))) (dSq (dSet 17 (dOp kAdd (dC (.int 1)) (dOp kMod (dCall 2 [] g__law_cell_at (dCons (dVar 0) (dCons (dC (.int 11)) dNil))) (dOp kIx (dLst (dCons (dC (.int 9)) (dCons (dOp kPow (dC (.int 10)) (dC (.int 20))) dNil))) (dOp kMod (dCall 2 [] g__law_cell_at (dCons (dVar 0) (dCons (dC (.int 10)) dNil))) (dC (.int 2))))))) (dSq (dOwn 13 (dLstN dNil)) (dSq (dFor (dSeq (dVar 4)) (gNm 15) (dSq (dOwn 8 (dCallN 3 g__law_put (dCons (dVar 15) (dCons (dLst dNil) (dCons (dTup (dCons (dFld K "numbers" (dVar 16)) (dCons (dFld K "add" (dVar 16)) (dCons (dFld K "divisor" (dVar 16)) dNil)))) dNil))))) (dSq (dPut 8 (dC (.int 3)) (dFz (dLcN (dRng1 (dVarP 2)) (gNm 18) dYes (dOp kAdd (dOp kIx (dOp kIx (dVarP 8) (dC (.int 3))) (dVarP 18)) (dCall 2 [] g__law_scaled (dCons (dFld K "numbers" (dVar 16)) (dCons (dOp kSub (dC (.int 0)) (dOp kIx (dOp kIx (dVarP 15) (dC (.int 2))) (dVarP 18))) dNil)))) [18]))) (dFrz 8 (dApp 13 (dVar 8)))))) (dFrz 13 (dSq (dIf (dNot (dTest (dCall 4 [] (g__law_right C_Mode C_Thing) (dCons (dCall 3 [] (g_rounded C_Straight C_Mode C_Thing) (dCons (dVar 7) (dCons (dVar 16) (dCons (dVar 17) dNil)))) (dCons (dVar 2) (dCons (dOp kAdd (dVarP 6) (dOp kMul (dLst (dCons (dTup (dCons (dC (.int 0)) (dCons (dVar 17) dNil))) dNil)) (dVarP 2))) (dCons (dVar 13) dNil))))))) (dRet (dC (.bl false))) dNext) (dRet (dAndV (dOp kEq (dCall 1 [] (g__law_told C_Mode C_Thing) (dCons (dVar 7) dNil)) (dVarP 4)) (dOp kEq (dMeth C_Thing "pushes" 1 (g_Thing_pushes C_Thing) (dVar 7) dNil) (dVarP 6))))))))))))))))))))))))
theorem der_law (T : Txt K mg a_is_whole a_own a_own_list a_are_wholes a_is_row a_is_room a_is_table a_Mode_init a_is_mode a_is_push a_Thing_init a_Thing_pushes a_Thing_modes a_Thing_is_closed a_Rule_counted a_Straight_init a_Straight_fits a_Straight_cut a_Stopped_init a_Stopped_fits a_Stopped_counted a_Stopped_cut a_stops_of a_Parted_init a_Parted_fits a_Parted_counted a_Parted_cut a_pieces a_scaled a_summed a_put_in a_steered a_misread a_rounded a_wider a_put_late a_late a__law_cell_at a__law_stream a__law_number a__law_parts a__law_straight a__law_rule a__law_scaled a__law_put a__law_put_late a__law_told a__law_right a_law C_BadThing C_TooMany C_Mode C_Thing C_Rule C_Straight C_Stopped C_Parted) (D_pieces : FD P w K mg base 13 a_pieces 2 [] (g_pieces C_Straight C_Stopped C_Parted)) (D_steered : FD P w K mg base 14 a_steered 2 [] (g_steered C_Straight C_Stopped C_Parted C_Mode C_Thing)) (D_rounded : FD P w K mg base 14 a_rounded 3 [] (g_rounded C_Straight C_Mode C_Thing)) (D_late : FD P w K mg base 14 a_late 2 [] (g_late C_Straight C_Stopped C_Parted C_Mode C_Thing)) (D__law_cell_at : FD P w K mg base 1 a__law_cell_at 2 [] g__law_cell_at) (D__law_parts : FD P w K mg base 2 a__law_parts 3 [] g__law_parts) (D__law_straight : FD P w K mg base 4 a__law_straight 2 [] (g__law_straight C_Straight)) (D__law_rule : FD P w K mg base 5 a__law_rule 2 [] (g__law_rule C_Straight C_Stopped C_Parted)) (D__law_scaled : FD P w K mg base 1 a__law_scaled 2 [] g__law_scaled) (D__law_put : FD1 P w K mg base 2 a__law_put 3 [] g__law_put) (D__law_put_late : FD P w K mg base 2 a__law_put_late 3 [] g__law_put_late) (D__law_told : FD P w K mg base 2 a__law_told 1 [] (g__law_told C_Mode C_Thing)) (D__law_right : FD P w K mg base 3 a__law_right 4 [] (g__law_right C_Mode C_Thing)) (M_Thing_pushes : FN P w K mg base 1 a_Thing_pushes 1 (g_Thing_pushes C_Thing)) (I_Mode : FI P w K mg base 3 C_Mode 7 [] g_Mode_init) (I_Thing : FI P w K mg base 5 C_Thing 4 [] (g_Thing_init C_Mode C_BadThing C_TooMany))
    {f : Addr} {cdv : Value} {A : Around} {outer : List Env} {s : Shared} {H : Hp} {E : XK} (hr : Room 14 (A.deeper (envOfC "law" (defScope s_law) s.heap.objs.size f cdv))) :
    RSs (cxOf (L2.CX P w) P w K mg base N_law "law" (defScope s_law) f cdv A outer s H E) (WF E) (defBody s_law) (tb_law K C_Thing C_Mode C_BadThing C_TooMany C_Straight C_Stopped C_Parted) :=
  (rss_cons (rs_set 1 sc_law.nd (re_call D__law_cell_at (hr.mono (by decide)) T.f__law_cell_at (takes_of rfl rfl rfl rfl) (ra_cons (re_var 0) (ra_cons re_int ra_nil)))) (rss_cons (rs_set 2 sc_law.nd (re_op opd_add (RE.p re_int) (RE.p (re_op opd_mod (rp_var 1) (RE.p re_int))))) (rss_cons (rs_set 3 sc_law.nd (re_op opd_mod (RE.p (re_op opd_div (rp_var 1) (RE.p re_int))) (RE.p re_int))) (rss_cons (rs_setLc 4 sc_law.nd (ri_range1 (RE.p (re_op opd_add (RE.p re_int) (RE.p (re_op opd_mod (RE.p (re_op opd_div (rp_var 1) (RE.p re_int))) (RE.p re_int))))) T.b_range) (blkOk_by (own := [("_law_k", 5)]) (N := N_law) (sc := (defScope s_law)) (by decide +kernel)) (fun _ _ _ _ _ => (rg_name 5 sc_law.nd)) (fun _ _ _ _ _ => rts_nil) (fun _ _ _ _ _ => (re_call D__law_parts (hr.mono (by decide)) T.f__law_parts takes0 (ra_cons (re_op opd_add (RE.p (re_call D__law_cell_at (hr.mono (by decide)) T.f__law_cell_at takes0 (ra_cons (re_var 0) (ra_cons (re_op opd_add (RE.p re_int) (rp_var 5)) ra_nil)))) (RE.p (re_op opd_mul (RE.p re_int) (rp_var 5)))) (ra_cons (re_var 2) (ra_cons (re_var 3) ra_nil))))) (sw_true rfl rfl rfl (by decide +kernel))) (rss_cons (rs_setLc 6 sc_law.nd (ri_range1 (rp_var 3) T.b_range) (blkOk_by (own := [("_law_k", 5)]) (N := N_law) (sc := (defScope s_law)) (by decide +kernel)) (fun _ _ _ _ _ => (rg_name 5 sc_law.nd)) (fun _ _ _ _ _ => rts_nil) (fun _ _ _ _ _ => (re_tup (ra_cons (re_op opd_sub (RE.p (re_op opd_sub (RE.p re_int) (rp_var 5))) (RE.p (re_op opd_mod (RE.p (re_op opd_div (rp_var 1) (RE.p re_int))) (RE.p re_int)))) (ra_cons (re_op opd_mul (rp_var 5) (rp_var 5)) ra_nil)))) (sw_true rfl rfl rfl (by decide +kernel))) (rss_cons (rs_set 7 sc_law.nd (re_make I_Thing (hr.mono (by decide)) T.c_Thing (takes_of rfl rfl rfl rfl) (ra_cons (re_var 2) (ra_cons (re_callTy cd_list T.b_list (rpa_cons (rp_var 6) rpa_nil)) (ra_cons (by exact (RN.e (rn_lc sc_law.nd (ri_seq (re_var 4)) (blkOk_by (own := [("_law_one", 8)]) (N := N_law) (sc := (defScope s_law)) (by decide +kernel)) (fun _ _ _ _ _ => (rg_name 8 sc_law.nd)) (fun _ _ _ _ _ => rts_nil) (fun _ _ _ _ _ => (re_make I_Mode (hr.mono (by decide)) T.c_Mode takes0 (ra_cons (re_ix ixd_seq (rp_var 8) (RE.p re_int)) (ra_cons (re_ix ixd_seq (rp_var 8) (RE.p re_int)) (ra_cons (re_ix ixd_seq (rp_var 8) (RE.p re_int)) (ra_cons (re_ix ixd_seq (rp_var 8) (RE.p re_int)) (ra_cons (re_ix ixd_seq (rp_var 8) (RE.p re_int)) (ra_cons (re_ix ixd_seq (rp_var 8) (RE.p re_int)) ra_nil))))))))))) ra_nil))))) (rss_cons (rs_set 9 sc_law.nd (re_call D__law_rule (hr.mono (by decide)) T.f__law_rule (takes_of rfl rfl rfl rfl) (ra_cons (re_slice (rp_var 0) (ro_some (RE.p re_int)) (ro_some (RE.p (re_op opd_add (RE.p re_int) (RE.p (re_op opd_mod (RE.p (re_op opd_div (rp_var 1) (RE.p re_int))) (RE.p re_int))))))) (ra_cons (re_var 2) ra_nil)))) (rss_cons (rs_setLc 10 sc_law.nd (ri_seq (re_call D_pieces (hr.mono (by decide)) T.f_pieces (takes_of rfl rfl rfl rfl) (ra_cons (re_var 9) (ra_cons (re_var 2) ra_nil)))) (blkOk_by (own := [("_law_rows", 11), ("_law_straight_here", 12)]) (N := N_law) (sc := (defScope s_law)) (by decide +kernel)) (fun _ _ _ _ _ => (rg_tup (rgs_cons (rg_name 11 sc_law.nd) (rgs_cons (rg_name 12 sc_law.nd) rgs_nil)))) (fun _ _ _ _ _ => rts_nil) (fun _ _ _ _ _ => (re_tup (ra_cons (re_var 11) (ra_cons (re_tup (ra_cons (re_fld (K := K) (re_var 12)) (ra_cons (re_fld (K := K) (re_var 12)) (ra_cons (re_fld (K := K) (re_var 12)) ra_nil)))) ra_nil)))) (sw_true rfl rfl rfl (by decide +kernel))) (rss_cons (rs_own 13 sc_law.nd (rn_lst ra_nil)) (rss_cons (rs_set 14 sc_law.nd (re_lst ra_nil)) (rss_cons (rs_for (passes_of rfl) (ri_seq (re_var 4)) (rg_name 15 sc_law.nd) (rss_cons (rs_own 13 sc_law.nd (rn_addL (rp_var 13) (RE.p (by exact (RN.e (rn_lc sc_law.nd (ri_seq (re_var 10)) (blkOk_by (own := [("_law_rows", 11), ("_law_straight_here", 12)]) (N := N_law) (sc := (defScope s_law)) (by decide +kernel)) (fun _ _ _ _ _ => (rg_tup (rgs_cons (rg_name 11 sc_law.nd) (rgs_cons (rg_name 12 sc_law.nd) rgs_nil)))) (fun _ _ _ _ _ => rts_nil) (fun _ _ _ _ _ => (by exact (RN.e (rn_call D__law_put (hr.mono (by decide)) T.f__law_put takes0 (ra_cons (re_var 15) (ra_cons (re_var 11) (ra_cons (re_var 12) ra_nil))))))))))))) (rss_one (rs_set 14 sc_law.nd (re_op opd_add (rp_var 14) (RE.p (by exact (RN.e (rn_lc sc_law.nd (ri_seq (re_var 10)) (blkOk_by (own := [("_law_rows", 11), ("_law_straight_here", 12)]) (N := N_law) (sc := (defScope s_law)) (by decide +kernel)) (fun _ _ _ _ _ => (rg_tup (rgs_cons (rg_name 11 sc_law.nd) (rgs_cons (rg_name 12 sc_law.nd) rgs_nil)))) (fun _ _ _ _ _ => rts_nil) (fun _ _ _ _ _ => (re_call D__law_put_late (hr.mono (by decide)) T.f__law_put_late takes0 (ra_cons (re_var 15) (ra_cons (re_var 11) (ra_cons (re_var 12) ra_nil)))))))))))))) (rss_frz 13 (rss_cons (rs_if (rt_not (rt_val (RE.p (re_call D__law_right (hr.mono (by decide)) T.f__law_right (takes_of rfl rfl rfl rfl) (ra_cons (re_call D_steered (hr.mono (by decide)) T.f_steered (takes_of rfl rfl rfl rfl) (ra_cons (re_var 7) (ra_cons (re_var 9) ra_nil))) (ra_cons (re_var 2) (ra_cons (re_var 6) (ra_cons (re_var 13) ra_nil)))))))) (rss_one (rs_ret re_bl)) rss_nil) (rss_cons (rs_if (RW.toT (rw_and (rt_cmp opd_lt (rp_var 2) (RE.p re_int)) (rw_and1 (rt_not (rt_val (RE.p (re_call D__law_right (hr.mono (by decide)) T.f__law_right (takes_of rfl rfl rfl rfl) (ra_cons (re_call D_late (hr.mono (by decide)) T.f_late (takes_of rfl rfl rfl rfl) (ra_cons (re_var 7) (ra_cons (re_var 9) ra_nil))) (ra_cons (re_op opd_add (rp_var 2) (RE.p re_int)) (ra_cons (re_var 6) (ra_cons (re_var 14) ra_nil))))))))))) (rss_one (rs_ret re_bl)) rss_nil) (rss_cons (rs_set 16 sc_law.nd (re_call D__law_straight (hr.mono (by decide)) T.f__law_straight (takes_of rfl rfl rfl rfl) (ra_cons (re_call D__law_cell_at (hr.mono (by decide)) T.f__law_cell_at (takes_of rfl rfl rfl rfl) (ra_cons (re_var 0) (ra_cons re_int ra_nil))) (ra_cons (re_var 2) ra_nil)))) (rss_cons (rs_set 17 sc_law.nd (re_op opd_add (RE.p re_int) (RE.p (re_op opd_mod (RE.p (re_call D__law_cell_at (hr.mono (by decide)) T.f__law_cell_at (takes_of rfl rfl rfl rfl) (ra_cons (re_var 0) (ra_cons re_int ra_nil)))) (RE.p (re_ix ixd_seq (RE.p (re_lst (ra_cons re_int (ra_cons (re_op opd_pow (RE.p re_int) (RE.p re_int)) ra_nil)))) (RE.p (re_op opd_mod (RE.p (re_call D__law_cell_at (hr.mono (by decide)) T.f__law_cell_at (takes_of rfl rfl rfl rfl) (ra_cons (re_var 0) (ra_cons re_int ra_nil)))) (RE.p re_int))))))))) (rss_cons (rs_own 13 sc_law.nd (rn_lst ra_nil)) (rss_cons (rs_for (passes_of rfl) (ri_seq (re_var 4)) (rg_name 15 sc_law.nd) (rss_cons (rs_own 8 sc_law.nd (rn_call D__law_put (hr.mono (by decide)) T.f__law_put (takes_of rfl rfl rfl rfl) (ra_cons (re_var 15) (ra_cons (re_lst ra_nil) (ra_cons (re_tup (ra_cons (re_fld (K := K) (re_var 16)) (ra_cons (re_fld (K := K) (re_var 16)) (ra_cons (re_fld (K := K) (re_var 16)) ra_nil)))) ra_nil))))) (rss_cons (rs_put 8 (RE.p re_int) (by exact (RN.e (rn_lc sc_law.nd (ri_range1 (rp_var 2) T.b_range) (blkOk_by (own := [("_law_i", 18)]) (N := N_law) (sc := (defScope s_law)) (by decide +kernel)) (fun _ _ _ _ _ => (rg_name 18 sc_law.nd)) (fun _ _ _ _ _ => rts_nil) (fun _ _ _ _ _ => (re_op opd_add (RE.p (re_ix ixd_seq (RE.p (re_ix ixd_seq (rp_var 8) (RE.p re_int))) (rp_var 18))) (RE.p (re_call D__law_scaled (hr.mono (by decide)) T.f__law_scaled takes0 (ra_cons (re_fld (K := K) (re_var 16)) (ra_cons (re_op opd_sub (RE.p re_int) (RE.p (re_ix ixd_seq (RE.p (re_ix ixd_seq (rp_var 15) (RE.p re_int))) (rp_var 18)))) ra_nil)))))))))) (rss_frz 8 (rss_one (rs_app 13 (re_var 8))))))) (rss_frz 13 (rss_cons (rs_if (rt_not (rt_val (RE.p (re_call D__law_right (hr.mono (by decide)) T.f__law_right (takes_of rfl rfl rfl rfl) (ra_cons (re_call D_rounded (hr.mono (by decide)) T.f_rounded (takes_of rfl rfl rfl rfl) (ra_cons (re_var 7) (ra_cons (re_var 16) (ra_cons (re_var 17) ra_nil)))) (ra_cons (re_var 2) (ra_cons (re_op opd_add (rp_var 6) (RE.p (re_op opd_mul (RE.p (re_lst (ra_cons (re_tup (ra_cons re_int (ra_cons (re_var 17) ra_nil))) ra_nil))) (rp_var 2)))) (ra_cons (re_var 13) ra_nil)))))))) (rss_one (rs_ret re_bl)) rss_nil) (rss_one (rs_ret (re_and (RE.p (re_cmp (opd_eq hr.units) (RE.p (re_call D__law_told (hr.mono (by decide)) T.f__law_told (takes_of rfl rfl rfl rfl) (ra_cons (re_var 7) ra_nil))) (rp_var 4))) (re_one (re_cmp (opd_eq hr.units) (RE.p (re_meth0 (re_var 7) T.l_Thing T.m_Thing_pushes M_Thing_pushes (hr.mono (by decide)) (takes_of rfl rfl rfl rfl))) (rp_var 6))))))))))))))))))))))))))
end
end K32

namespace K32
open PySem PySem.Spec
open PyProof.Rows L2 Dl
open Lp
/-! ### numbers, parts, straight rules, rules drawn -/
theorem rd__law_number (ds : List D) (Q E : EQ) (_ : ds.length = 1) (h : g__law_number ds Q E) : tb__law_number (dE Q E) (startD N__law_number ds) := by
  obtain ⟨x, rfl, x0, x1, q⟩ := h
  unfold tb__law_number dE
  walk_at "go"
  have e6 : x.fdiv 9 = x / 9 := Int.fdiv_eq_ediv_of_nonneg _ (by decide)
  by_cases c : x.fmod 9 = 1
  · rw [decide_eq_true c]
    walk_at "go"
    rw [e6]
    have m1 := Int.fmod_nonneg_of_pos (x / 9 * 1000000000000) (show (0 : Int) < 100000000000000000000 by decide)
    have m2 := Int.fmod_lt_of_pos (x / 9 * 1000000000000) (show (0 : Int) < 100000000000000000000 by decide)
    exact q _ (bnd_of (by omega) (by omega))
  · rw [decide_eq_false c]
    walk_at "go"
    have m1 := Int.fmod_nonneg_of_pos (x.fdiv 9) (show (0 : Int) < 19 by decide)
    have m2 := Int.fmod_lt_of_pos (x.fdiv 9) (show (0 : Int) < 19 by decide)
    exact q _ (bnd_of (by omega) (by omega))
theorem getD_bd {B : Nat} {ns : List Int} (h : ∀ a ∈ ns, bnd B a) (j : Nat) : bnd B (ns.getD j 0) := Dl.getD_bd h j
theorem rd__law_straight {CS : Addr} (ds : List D) (Q E : EQ) (_ : ds.length = 2) (h : g__law_straight CS ds Q E) : tb__law_straight CS (dE Q E) (startD N__law_straight ds) := by
  obtain ⟨c, n, rfl, n1, n3, q⟩ := h
  unfold tb__law_straight dE
  walk_at "go"
  refine ⟨c, 5, rfl, by decide, fun X hX => ?_⟩
  have h3 := hX 3
  walk_at "go"
  rw [cut_beg X (show n ≤ 5 by omega)]
  refine compL_gen D.int (bnd 67) _ (fun e he K1 K0 hK => ?_) fun ys yl yb => ?_
  · obtain ⟨j, _, rfl⟩ := List.mem_map.mp he
    have := hX j
    walk_at "go"
    exact ⟨_, rfl, this.1, this.2, fun y hy => hK y hy⟩
  rw [tab_list, yl, tab_len]
  have yf : ∀ j, bnd 67 ((fun j => ys.getD j 0) j) := Dl.getD_bd yb
  generalize (fun j => ys.getD j 0) = f at *
  walk_at "go"
  refine ⟨_, rfl, h3.1, h3.2, fun y hy => ?_⟩
  walk_at "go"
  have z1 := Int.fmod_nonneg_of_pos (X 4) (show (0 : Int) < 9 by decide)
  have z2 := Int.fmod_lt_of_pos (X 4) (show (0 : Int) < 9 by decide)
  exact ⟨_, _, _, rfl, kn_lst _, q f y _ ⟨fun j => bnd_mono (yf j) (by decide), bnd_mono hy (by decide), by show 1 ≤ 1 + (X 4).fmod 9; omega, by show bnd 31 (1 + (X 4).fmod 9); exact bnd_of (by omega) (by omega)⟩⟩
theorem rd__law_parts (ds : List D) (Q E : EQ) (_ : ds.length = 3) (h : g__law_parts ds Q E) : tb__law_parts (dE Q E) (startD N__law_parts ds) := by
  obtain ⟨c, n, p, rfl, n1, n3, p3, q⟩ := h
  unfold tb__law_parts dE
  walk_at "go"
  refine ⟨c, 40, rfl, by decide, fun X hX => ?_⟩
  walk_at "go"
  refine compL_gen D.int (bnd 67) _ (fun e he K1 K0 hK => ?_) fun ys yl yb => ?_
  · obtain ⟨j, _, rfl⟩ := List.mem_map.mp he
    have := hX j
    walk_at "go"
    exact ⟨_, rfl, this.1, this.2, fun y hy => hK y hy⟩
  rw [tab_list, yl, tab_len]
  have yf : ∀ j, bnd 67 ((fun j => ys.getD j 0) j) := Dl.getD_bd yb
  generalize (fun j => ys.getD j 0) = N at *
  have seg : ∀ (b m i s : Nat), b + s * i + m ≤ 40 → cut (tabD 40 N) (some ((b : Int) + (s : Int) * (i : Int))) (some ((b : Int) + (s : Int) * (i : Int) + (m : Int))) = tabD m fun j => N (b + s * i + j) := fun b m i s h => by
    rw [show (b : Int) + (s : Int) * (i : Int) + (m : Int) = ((b + s * i + m : Nat) : Int) by rw [Int.natCast_add, Int.natCast_add, Int.natCast_mul], show (b : Int) + (s : Int) * (i : Int) = ((b + s * i : Nat) : Int) by rw [Int.natCast_add, Int.natCast_mul]]
    exact cut_seg N h
  have seg0 : ∀ (b m : Nat), b + m ≤ 40 → cut (tabD 40 N) (some (b : Int)) (some ((b : Int) + (m : Int))) = tabD m fun j => N (b + j) := fun b m h => by
    rw [show (b : Int) + (m : Int) = ((b + m : Nat) : Int) by omega]
    exact cut_seg N h
  have r1 := Int.fmod_nonneg_of_pos (X 39) (show (0 : Int) < 3 by decide)
  have r2 := Int.fmod_lt_of_pos (X 39) (show (0 : Int) < 3 by decide)
  obtain ⟨z, ez, z2⟩ : ∃ z : Nat, (X 39).fmod 3 = (z : Int) ∧ z ≤ 2 := ⟨((X 39).fmod 3).toNat, by omega, by omega⟩
  walk_at "go"
  rw [ez]
  walk_at "go"
  rw [Int.toNat_natCast]
  refine compL_rng z (fun k => rowW (n + 1) fun j => N (4 * k + j)) (fun i hi K1 K0 hK => ?_) ?_
  · walk_at "go"
    rw [show cut (tabD 40 N) (some (4 * (i : Int))) (some (4 * (i : Int) + (n : Int) + 1)) = tabD (n + 1) fun j => N (4 * i + j) from by
      rw [show 4 * (i : Int) + (n : Int) + 1 = ((4 * i + (n + 1) : Nat) : Int) by omega, show 4 * (i : Int) = ((4 * i : Nat) : Int) by omega]
      exact cut_seg N (by omega)]
    exact hK
  obtain ⟨rs, ers, rl, rb⟩ : ∃ rs : List (Nat → Int), (List.range z).map (fun k : Nat => rowW (n + 1) fun j => N (4 * k + j)) = rs.map (rowW (n + 1)) ∧ rs.length ≤ 2 ∧ True := ⟨(List.range z).map fun k : Nat => fun j => N (4 * k + j), by rw [List.map_map]; rfl, by rw [List.length_map, List.length_range]; exact z2, trivial⟩
  rw [ers]
  walk_at "go"
  rw [Int.toNat_natCast]
  refine compL_rng n (fun i => .lst (tabD n fun j => N (8 + 3 * i + j))) (fun i hi K1 K0 hK => ?_) ?_
  · walk_at "go"
    rw [show cut (tabD 40 N) (some ((8 : Int) + 3 * (i : Int))) (some ((8 : Int) + 3 * (i : Int) + (n : Int))) = _ from seg 8 n i 3 (by omega)]
    exact hK
  rw [show (List.range n).map (fun i => D.lst (tabD n fun j => N (8 + 3 * i + j))) = lstL n n fun i j => N (8 + 3 * i + j) from rfl]
  walk_at "go"
  rw [Int.toNat_natCast]
  refine compL_rng n (fun i => .lst (tabD p fun j => N (20 + 3 * i + j))) (fun i hi K1 K0 hK => ?_) ?_
  · walk_at "go"
    rw [show cut (tabD 40 N) (some ((20 : Int) + 3 * (i : Int))) (some ((20 : Int) + 3 * (i : Int) + (p : Int))) = _ from seg 20 p i 3 (by omega)]
    exact hK
  rw [show (List.range n).map (fun i => D.lst (tabD p fun j => N (20 + 3 * i + j))) = lstL n p fun i j => N (20 + 3 * i + j) from rfl]
  walk_at "go"
  have m1 := Int.fmod_nonneg_of_pos (X 38) (show (0 : Int) < 9 by decide)
  have m2 := Int.fmod_lt_of_pos (X 38) (show (0 : Int) < 9 by decide)
  rw [show cut (tabD 40 N) (some (17 : Int)) (some ((17 : Int) + (n : Int))) = _ from seg0 17 n (by omega), show cut (tabD 40 N) (some (30 : Int)) (some ((30 : Int) + (n : Int))) = _ from seg0 30 n (by omega)]
  refine q ⟨rs, fun i j => N (8 + 3 * i + j), fun j => N (17 + j), fun i j => N (20 + 3 * i + j), fun j => N (30 + j), 1 + (X 38).fmod 9⟩ ⟨⟨fun i j => yf _, fun i => yf _, fun i j => yf _, fun i => yf _, ?_, ?_⟩, ?_, rl⟩
  · show 1 ≤ 1 + (X 38).fmod 9
    omega
  · show bnd 67 (1 + (X 38).fmod 9)
    exact bnd_of (by omega) (by omega)
  · show 1 + (X 38).fmod 9 ≤ 9
    omega
abbrev rulePq (CS CA : Addr) : DS := (dSq (dSet 5 (dCall 2 [] (g__law_straight CS) (dCons (dOp kDiv (dOp kIx (dVarP 0) (dVarP 3)) (dC (.int 7))) (dCons (dVar 1) dNil)))) (dSq (dSet 6 (dCB kTuple (dCons (dFz (dLcN (dSeq (dSl (dVarP 4) dNoPart (dPart (dOp kAdd (dVarP 1) (dC (.int 1)))))) (gNm 7) dYes (dCall 1 [] g__law_number (dCons (dVar 7) dNil)) [7])) dNil))) (dSet 2 (dMake 4 CA [] g_Parted_init (dCons (dVar 6) (dCons (dOp kIx (dLst (dCons (dVar 2) (dCons (dVar 5) dNil))) (dOp kMod (dOp kIx (dVarP 4) (dC (.int 4))) (dC (.int 2)))) (dCons (dOp kIx (dLst (dCons (dVar 5) (dCons (dVar 2) dNil))) (dOp kMod (dOp kIx (dVarP 4) (dC (.int 4))) (dC (.int 2)))) dNil)))))))
abbrev ruleT (CS CP CA : Addr) : DS := (dSq (dSet 4 (dCall 2 [] g__law_stream (dCons (dOp kIx (dVarP 0) (dVarP 3)) (dCons (dC (.int 5)) dNil)))) (dIf (dAnd (dTest (dOp kEq (dOp kMod (dOp kIx (dVarP 4) (dC (.int 4))) (dC (.int 3))) (dC (.int 0)))) (dTest (dOp kLt (dVarP 3) (dC (.int 3))))) (dSet 2 (dMake 4 CP [] g_Stopped_init (dCons (dVar 2) (dCons (dOp kSub (dOp kMod (dOp kIx (dVarP 4) (dC (.int 0))) (dC (.int 9))) (dC (.int 9))) (dCons (dOp kMod (dOp kIx (dVarP 4) (dC (.int 1))) (dC (.int 9))) dNil))))) (dSq (dSet 5 (dCall 2 [] (g__law_straight CS) (dCons (dOp kDiv (dOp kIx (dVarP 0) (dVarP 3)) (dC (.int 7))) (dCons (dVar 1) dNil)))) (dSq (dSet 6 (dCB kTuple (dCons (dFz (dLcN (dSeq (dSl (dVarP 4) dNoPart (dPart (dOp kAdd (dVarP 1) (dC (.int 1)))))) (gNm 7) dYes (dCall 1 [] g__law_number (dCons (dVar 7) dNil)) [7])) dNil))) (dSet 2 (dMake 4 CA [] g_Parted_init (dCons (dVar 6) (dCons (dOp kIx (dLst (dCons (dVar 2) (dCons (dVar 5) dNil))) (dOp kMod (dOp kIx (dVarP 4) (dC (.int 4))) (dC (.int 2)))) (dCons (dOp kIx (dLst (dCons (dVar 5) (dCons (dVar 2) dNil))) (dOp kMod (dOp kIx (dVarP 4) (dC (.int 4))) (dC (.int 2)))) dNil)))))))))
theorem rule_pq {CS CP CA : Addr} {n k : Nat} {d : DE} {C : List D} {c0 : Int} {s5 s6 s7 : Sl} {X : Nat → Int} (n1 : 1 ≤ n) (n3 : n ≤ 3) (ek : atI C (k : Int) = some (.int c0)) (hX : ∀ j, 0 ≤ X j ∧ X j < 2147483647) (r : Ru) (ro : r.ok)
    (h : ∀ (r' : Ru) (s5 s6 s7 : Sl), r'.ok → r'.dep = r.dep + 1 → r'.cnt = r.cnt + 1 → d.nx [.sh (.lst C), .sh (.int n), .sh (ruD CS CP CA n r'), .sh (.int k), .sh (.lst (tabD 5 X)), s5, s6, s7]) :
    rulePq CS CA d [.sh (.lst C), .sh (.int n), .sh (ruD CS CP CA n r), .sh (.int k), .sh (.lst (tabD 5 X)), s5, s6, s7] := by
  walk_at "go"
  rw [ek]
  walk_at "go"
  refine ⟨_, n, rfl, n1, n3, fun f b c ok => ?_⟩
  walk_at "go"
  rw [show cut (tabD 5 X) none (some ((n : Int) + 1)) = tabD (n + 1) X from cut_beg X (show n + 1 ≤ 5 by omega)]
  refine compL_gen D.int (bnd 67) _ (fun e he K1 K0 hK => ?_) fun ys yl yb => ?_
  · obtain ⟨j, _, rfl⟩ := List.mem_map.mp he
    have := hX j
    walk_at "go"
    exact ⟨_, rfl, this.1, this.2, fun y hy => hK y hy⟩
  rw [tab_list, yl, tab_len]
  have bw : ∀ j, bnd 67 ((fun j => ys.getD j 0) j) := Dl.getD_bd yb
  generalize (fun j => ys.getD j 0) = w at *
  have bw : ∀ j, bnd 101 (w j) := fun j => bnd_mono (bw j) (by decide)
  walk_at "go"
  rcases pickB (ruD CS CP CA n r) (Dl.stI CS n f b c) (X 4) with ⟨_, e1, e2⟩ | ⟨_, e1, e2⟩
  · rw [e1]
    walk_at "go"
    rw [e2]
    walk_at "go"
    refine ⟨_, _, _, rfl, ?_⟩
    exact h (.pa w r (.st f b c)) _ _ _ ⟨bw, ro, ok⟩ (by show max r.dep 0 + 1 = _; omega) rfl
  · rw [e1]
    walk_at "go"
    rw [e2]
    walk_at "go"
    refine ⟨_, _, _, rfl, ?_⟩
    exact h (.pa w (.st f b c) r) _ _ _ ⟨bw, ok, ro⟩ (by show max 0 r.dep + 1 = _; omega) (by show 1 + r.cnt = _; omega)
/-- how many parts, how many pieces, ahead of the k-th cell -/
structure RuK2 (k : Nat) (r : Ru) : Prop where
  sm : r.ok
  dep : r.dep + 1 ≤ k
  c1 : k = 1 → r.cnt ≤ 1
  c2 : k = 2 → r.cnt ≤ 3
  c3 : k = 3 → r.cnt ≤ 9
  c4 : r.cnt ≤ 10
theorem rule_loop {CS CP CA : Addr} {cs : List Int} {n : Nat} {d : DE} (n1 : 1 ≤ n) (n3 : n ≤ 3) (l4 : cs.length ≤ 4) : ∀ (u k : Nat) (r : Ru) (s3 s4 s5 s6 s7 : Sl), 1 ≤ k → (k + u = cs.length ∨ (u = 0 ∧ k = 1)) → RuK2 k r →
    (∀ (r : Ru) (s3 s4 s5 s6 s7 : Sl), r.ok → r.cnt ≤ 10 → r.dep ≤ 3 → d.nx [.sh (.lst (cs.map .int)), .sh (.int n), .sh (ruD CS CP CA n r), s3, s4, s5, s6, s7]) →
    loopD (gNm 3) (ruleT CS CP CA) d (irg (k : Int) u) [.sh (.lst (cs.map .int)), .sh (.int n), .sh (ruD CS CP CA n r), s3, s4, s5, s6, s7]
  | 0, k, r, s3, s4, s5, s6, s7, k1, hk, o, h => lp_r0 (h r _ _ _ _ _ o.sm o.c4 (by have := o.dep; omega))
  | u + 1, k, r, s3, s4, s5, s6, s7, k1, hk, o, h => by
    have hk : k + (u + 1) = cs.length := by omega
    have ek : atI (cs.map D.int) (k : Int) = some (.int (cs.getD k 0)) := by rw [atI_nn, List.getElem?_map, List.getD_eq_getElem?_getD, List.getElem?_eq_getElem (by omega)]; rfl
    have od := o.dep
    have oc := o.c4
    have o1 := o.c1
    have o2 := o.c2
    have o3 := o.c3
    have cp := cnt_pos r
    refine lp_rs ?_
    walk_at "go"
    rw [ek]
    walk_at "go"
    refine ⟨_, 5, rfl, by decide, fun X hX => ?_⟩
    have h0 := hX 0
    have h1 := hX 1
    have part : ∀ (d' : DE) (s5 s6 s7 : Sl), d'.nx = loopD (gNm 3) (ruleT CS CP CA) d (irg ((k : Int) + 1) u) → rulePq CS CA d' [.sh (.lst (cs.map .int)), .sh (.int n), .sh (ruD CS CP CA n r), .sh (.int k), .sh (.lst (tabD 5 X)), s5, s6, s7] := fun d' s5 s6 s7 e => rule_pq n1 n3 ek hX r o.sm fun r' s5 s6 s7 o' de ce => by
      rw [e]
      exact rule_loop n1 n3 l4 u (k + 1) r' _ _ _ _ _ (by omega) (by omega) ⟨o', by omega, by omega, by omega, by omega, by omega⟩ h
    walk_at "go"
    by_cases c1 : (X 4).fmod 3 = 0
    · rw [decide_eq_true c1]
      walk_at "go"
      by_cases c2 : (k : Int) < 3
      · rw [decide_eq_true c2]
        walk_at "go"
        have m1 := Int.fmod_nonneg_of_pos (X 1) (show (0 : Int) < 9 by decide)
        have m2 := Int.fmod_lt_of_pos (X 1) (show (0 : Int) < 9 by decide)
        have m3 := Int.fmod_nonneg_of_pos (X 0) (show (0 : Int) < 9 by decide)
        have m4 := Int.fmod_lt_of_pos (X 0) (show (0 : Int) < 9 by decide)
        refine ⟨_, _, _, rfl, ?_⟩
        have hc : (Ru.sp r ((X 0).fmod 9 - 9) ((X 1).fmod 9)).cnt = 3 * r.cnt := rfl
        have hd : (Ru.sp r ((X 0).fmod 9 - 9) ((X 1).fmod 9)).dep = r.dep + 1 := rfl
        exact rule_loop n1 n3 l4 u (k + 1) (.sp r ((X 0).fmod 9 - 9) ((X 1).fmod 9)) _ _ _ _ _ (by omega) (by omega) ⟨⟨o.sm, bnd_of (by omega) (by omega), bnd_of (by omega) (by omega), by omega⟩, by omega, by omega, by omega, by omega, by omega⟩ h
      · rw [decide_eq_false c2]
        refine part _ _ _ _ ?_
        rfl
    · rw [decide_eq_false c1]
      refine part _ _ _ _ ?_
      rfl
theorem rd__law_rule {CS CP CA : Addr} (ds : List D) (Q E : EQ) (_ : ds.length = 2) (h : g__law_rule CS CP CA ds Q E) : tb__law_rule CS CP CA (dE Q E) (startD N__law_rule ds) := by
  obtain ⟨cs, n, rfl, l4, n1, n3, q⟩ := h
  unfold tb__law_rule dE
  walk_at "go"
  refine ⟨cs, 0, _, rfl, .inr rfl, ?_⟩
  walk_at "go"
  refine ⟨_, n, rfl, n1, n3, fun f b c ok => ?_⟩
  walk_at "go"
  rw [List.length_map]
  refine ⟨by omega, ?_⟩
  refine rule_loop (CS := CS) (CP := CP) (CA := CA) n1 n3 l4 (((cs.length : Int) - 1).toNat) 1 (.st f b c) _ _ _ _ _ (Nat.le_refl 1) (by omega) ⟨ok, Nat.le_refl 1, fun _ => Nat.le_refl 1, fun _ => Nat.le_of_ble_eq_true rfl, fun _ => Nat.le_of_ble_eq_true rfl, Nat.le_of_ble_eq_true rfl⟩ fun r s3 s4 s5 s6 s7 ro rc rd => ?_
  walk_at "go"
  exact q r ro rc rd
/-! ### what ought to stand -/
theorem rd__law_put (ds : List D) (Q : List D → Prop) (E : EQ) (_ : ds.length = 3) (h : g__law_put ds Q E) : tb__law_put (dE1 Q E) (startD N__law_put ds) := by
  obtain ⟨n, p, m, ⟨rs, f, a, b⟩, rfl, n3, p6, rl, pl, ms, ⟨hf, ha, b1, bb⟩, q⟩ := h
  have hf : ∀ j, bnd 101 (f j) := hf
  have ha : bnd 101 a := ha
  have b31 : bnd 31 b := bb
  have ln : (lstL n n m.nexts).length = n := lstL_len
  have mb : bnd 95 m.div := ms.divb
  have mo3 : mulOk b m.div := mul_of b31 mb (by decide)
  have pl : rs.length ≤ 100 := pl
  have q : Q [.lst ((m.rows ++ rs).map (rowW (n + 1))), .lst (lstL n n fun i j => b * m.nexts i j + m.steer i * f j), .lst (tabD n fun _ => 0), .lst (lstL n p fun i j => b * m.push i j), .lst (tabD n fun i => b * m.add i + a * m.steer i), .int (b * m.div)] := q
  unfold tb__law_put dE1 parT
  walk_at "go"
  rw [ln, Int.toNat_natCast]
  refine compL_rng n (fun i => .lst (tabD n fun j => b * m.nexts i j + m.steer i * f j)) (fun i hi K1 K0 hK => ?_) ?_
  · walk_at "go"
    rw [Int.toNat_natCast]
    refine compL_rng n (fun j => .int (b * m.nexts i j + m.steer i * f j)) (fun j hj L1 L0 hL => ?_) hK
    have e1 : atI (lstL n n m.nexts) (i : Int) = some (.lst (tabD n (m.nexts i))) := by rw [atI_nn]; exact lstL_get hi
    have e2 : atI (tabD n (m.nexts i)) (j : Int) = some (.int (m.nexts i j)) := by rw [atI_nn, tab_get hj]
    have e3 : atI (tabD n m.steer) (i : Int) = some (.int (m.steer i)) := by rw [atI_nn, tab_get hi]
    have e4 : atI (tabD n f) (j : Int) = some (.int (f j)) := by rw [atI_nn, tab_get hj]
    have o1 : mulOk b (m.nexts i j) := mul_of b31 (ms.nexts i j) (by decide)
    have o2 : mulOk (m.steer i) (f j) := mul_of (ms.steer i) (hf j) (by decide)
    walk_at "go"
    rw [e1]
    walk_at "go"
    rw [e2]
    walk_at "go"
    rw [e3]
    walk_at "go"
    rw [e4]
    walk_at "go"
    exact hL
  rw [show (List.range n).map (fun i => D.lst (tabD n fun j => b * m.nexts i j + m.steer i * f j)) = lstL n n fun i j => b * m.nexts i j + m.steer i * f j from rfl]
  walk_at "go"
  rw [Int.toNat_natCast]
  refine compL_rng n (fun i => .int (b * m.add i + m.steer i * a)) (fun i hi K1 K0 hK => ?_) ?_
  · have e3 : atI (tabD n m.steer) (i : Int) = some (.int (m.steer i)) := by rw [atI_nn, tab_get hi]
    have e4 : atI (tabD n m.add) (i : Int) = some (.int (m.add i)) := by rw [atI_nn, tab_get hi]
    have o1 : mulOk b (m.add i) := mul_of b31 (ms.add i) (by decide)
    have o2 : mulOk (m.steer i) a := mul_of (ms.steer i) ha (by decide)
    walk_at "go"
    rw [e4]
    walk_at "go"
    rw [e3]
    walk_at "go"
    exact hK
  rw [show (List.range n).map (fun i : Nat => D.int (b * m.add i + m.steer i * a)) = tabD n fun i => b * m.add i + a * m.steer i from List.map_congr_left fun i _ => by rw [Int.mul_comm (m.steer i) a]]
  walk_at "go"
  rw [← List.map_append]
  rw [rep0]
  refine ⟨few_of (by rw [tab_len]; omega), ?_⟩
  walk_at "go"
  refine compL_fun (fun i => D.lst (tabD p (m.push i))) (fun i => D.lst (tabD p fun j => b * m.push i j)) (List.range n) (fun i hi K1 K0 hK => ?_) ?_
  · walk_at "go"
    refine ⟨p, m.push i, b, rfl, fun j => bnd_mono (ms.push i j) (by decide), bnd_mono b31 (by decide), ?_⟩
    exact hK
  rw [show (List.range n).map (fun i => D.lst (tabD p fun j => b * m.push i j)) = lstL n p fun i j => b * m.push i j from rfl]
  walk_at "go"
  exact q
theorem rd__law_put_late (ds : List D) (Q E : EQ) (_ : ds.length = 3) (h : g__law_put_late ds Q E) : tb__law_put_late (dE Q E) (startD N__law_put_late ds) := by
  obtain ⟨n, p, m, ⟨rs, f, a, b⟩, rfl, n1, n3, p6, rl, pl, ms, ⟨hf, ha, b1, bb⟩, q⟩ := h
  have hf : ∀ j, bnd 101 (f j) := hf
  have ha : bnd 101 a := ha
  have b31 : bnd 31 b := bb
  have ln : (lstL n n m.nexts).length = n := lstL_len
  have mb : bnd 95 m.div := ms.divb
  have mo3 : mulOk b m.div := mul_of b31 mb (by decide)
  have mo2 : mulOk m.div a := mul_of mb ha (by decide)
  have pl : rs.length ≤ 100 := pl
  have q : Q (.lst [.lst (((m.rows ++ rs).map (widR n 1)).map (rowW (n + 1 + 1))), .lst (lstL (n + 1) (n + 1) fun i => if i = n then (fun j => if j = n then 0 else m.div * f j) else fun j => if j = n then b * m.steer i else b * m.nexts i j), .lst (tabD (n + 1) fun _ => 0), .lst (lstL (n + 1) p fun i => if i = n then (fun _ => 0) else fun j => b * m.push i j), .lst (tabD (n + 1) fun i => if i = n then m.div * a else b * m.add i), .int (b * m.div)]) := q
  unfold tb__law_put_late dE parT
  walk_at "go"
  rw [← List.map_append]
  refine compL_fun (rowW (n + 1)) (fun r => rowW (n + 1 + 1) (widR n 1 r)) (m.rows ++ rs) (fun r hr K1 K0 hK => ?_) ?_
  · unfold rowW at *
    walk_at "go"
    refine ⟨nf_tab _ _, ?_⟩
    rw [cut_tab_init]
    walk_at "go"
    rw [tab_last]
    walk_at "go"
    have e : tabD n r ++ [D.int 0, D.int (r n)] = tabD (n + 1 + 1) (widR n 1 r) := by
      rw [show [D.int 0, D.int (r n)] = [D.int 0] ++ [D.int (r n)] from rfl, ← List.append_assoc, tab_snoc, tab_snoc]
      refine tab_congr fun j hj => ?_
      unfold widR
      by_cases h1 : j < n
      · rw [if_neg (by omega), if_neg (by omega), if_pos h1]
      · by_cases h2 : j = n
        · rw [if_neg (by omega), if_pos h2, if_neg h1, if_pos (by omega)]
        · rw [if_pos (by omega), if_neg h1, if_neg (by omega)]
    rw [e]
    exact ⟨tab_ne n1, few_of (by rw [tab_len]; omega), hK⟩
  rw [show (m.rows ++ rs).map (fun r => rowW (n + 1 + 1) (widR n 1 r)) = ((m.rows ++ rs).map (widR n 1)).map (rowW (n + 1 + 1)) by rw [List.map_map]; rfl]
  walk_at "go"
  rw [ln, Int.toNat_natCast]
  refine compL_rng n (fun i => .lst (tabD (n + 1) fun j => if j = n then b * m.steer i else b * m.nexts i j)) (fun i hi K1 K0 hK => ?_) ?_
  · have e1 : atI (lstL n n m.nexts) (i : Int) = some (.lst (tabD n (m.nexts i))) := by rw [atI_nn]; exact lstL_get hi
    have e3 : atI (tabD n m.steer) (i : Int) = some (.int (m.steer i)) := by rw [atI_nn, tab_get hi]
    have mo : mulOk b (m.steer i) := mul_of b31 (ms.steer i) (by decide)
    walk_at "go"
    rw [e1]
    walk_at "go"
    refine ⟨n, m.nexts i, b, rfl, fun j => bnd_mono (ms.nexts i j) (by decide), bnd_mono b31 (by decide), ?_⟩
    walk_at "go"
    rw [e3]
    walk_at "go"
    rw [tab_snoc]
    exact hK
  rw [show (List.range n).map (fun i => D.lst (tabD (n + 1) fun j => if j = n then b * m.steer i else b * m.nexts i j)) = lstL n (n + 1) fun i j => if j = n then b * m.steer i else b * m.nexts i j from rfl]
  walk_at "go"
  refine ⟨n, f, m.div, rfl, fun j => bnd_mono (hf j) (by decide), bnd_mono mb (by decide), ?_⟩
  walk_at "go"
  rw [tab_snoc, lstL_snoc]
  refine ⟨few_of (by rw [lstL_len]; omega), ?_⟩
  generalize hN : (fun i => if i = n then (fun j => if j = n then 0 else m.div * f j) else fun j => if j = n then b * m.steer i else b * m.nexts i j) = NN at *
  walk_at "go"
  refine compL_fun (fun i => D.lst (tabD p (m.push i))) (fun i => D.lst (tabD p fun j => b * m.push i j)) (List.range n) (fun i hi K1 K0 hK => ?_) ?_
  · walk_at "go"
    refine ⟨p, m.push i, b, rfl, fun j => bnd_mono (ms.push i j) (by decide), bnd_mono b31 (by decide), ?_⟩
    exact hK
  rw [show (List.range n).map (fun i => D.lst (tabD p fun j => b * m.push i j)) = lstL n p fun i j => b * m.push i j from rfl]
  have e0 : atI (lstL n p m.push) 0 = some (.lst (tabD p (m.push 0))) := by rw [show (0 : Int) = ((0 : Nat) : Int) from rfl, atI_nn]; exact lstL_get (by omega)
  have l0 : (tabD p (m.push 0)).length = p := tab_len _ _
  walk_at "go"
  rw [e0]
  walk_at "go"
  rw [l0, rep0]
  refine ⟨few_of (by rw [tab_len]; omega), ?_⟩
  walk_at "go"
  rw [lstL_snoc]
  generalize hP : (fun i => if i = n then (fun _ => 0) else fun j => b * m.push i j) = PP at *
  refine ⟨few_of (by rw [lstL_len]; omega), ?_⟩
  walk_at "go"
  rw [show (n : Int) + 1 = ((n + 1 : Nat) : Int) from rfl, rep0]
  refine ⟨few_of (by rw [tab_len]; omega), ?_⟩
  walk_at "go"
  refine ⟨n, m.add, b, rfl, fun j => bnd_mono (ms.add j) (by decide), bnd_mono b31 (by decide), ?_⟩
  walk_at "go"
  rw [tab_snoc]
  exact q
/-! ### what a thing tells -/
theorem rd__law_told {K : PySem.W.Frag} {CM CT : Addr} (hT : ThK K CM CT) (ds : List D) (Q E : EQ) (_ : ds.length = 1) (h : g__law_told CM CT ds Q E) : tb__law_told K CT (dE Q E) (startD N__law_told ds) := by
  obtain ⟨n, ps, ms, rfl, ml, q⟩ := h
  have k1 := hT.f_Mode_nexts
  have k2 := hT.f_Mode_steer
  have k3 := hT.f_Mode_push
  have k4 := hT.f_Mode_add
  have k5 := hT.f_Mode_divisor
  have k6 := hT.f_Mode_rows
  unfold tb__law_told dE
  walk_at "go"
  refine ⟨_, _, _, rfl, ?_⟩
  walk_at "go"
  refine loop_ix (fun k ρ => ∃ s2 : Sl, ρ = [.sh (thI CT n ps (ms.map (mdI CM n ps.length))), .ow ((ms.take k).map (parT n ps.length)), s2]) _ ?_ ?_ ⟨_, rfl⟩
  · rintro ρ ⟨s2, rfl⟩
    rw [List.length_map, List.take_length]
    walk_at "go"
    exact q
  · rintro k d ρ hx ⟨s2, rfl⟩ N hN
    rw [List.getElem?_map] at hx
    cases hk : ms[k]? with
    | none => rw [hk] at hx; exact nomatch hx
    | some m =>
      rw [hk] at hx
      injection hx with hx
      subst hx
      have kl := (List.getElem?_eq_some_iff.mp hk).1
      unfold mdI
      walk_at "go"
      have e : (ms.take k).map (parT n ps.length) ++ [.lst (parD n ps.length m)] = (ms.take (k + 1)).map (parT n ps.length) := by
        rw [List.take_succ, hk, show (some m).toList = [m] from rfl, List.map_append]
        rfl
      refine ⟨few_of (by rw [List.length_append, List.length_map, List.length_take, List.length_singleton]; omega), ?_⟩
      rw [e]
      exact hN _ ⟨_, rfl⟩
theorem okk_tabL (k n : Nat) (F : Nat → Int) : (D.lst (tabD n F)).okk (k + 1) = true := by
  unfold D.okk
  exact okk_tab _ _ _
theorem rd_Thing_is_closed {K : PySem.W.Frag} {CM CT : Addr} (hK : ThK K CM CT) (ds : List D) (Q E : EQ) (_ : ds.length = 1) (h : g_Thing_is_closed CM CT ds Q E) : tb_Thing_is_closed K (dE Q E) (startD N_Thing_is_closed ds) := by
  obtain ⟨n, ps, ms, rfl, n1, n10, hs, q⟩ := h
  have k1 := hK.f_Thing_ways
  have k2 := hK.f_Thing_many
  have k3 := hK.f_Mode_steer
  unfold tb_Thing_is_closed dE thI thF
  walk_at "go"
  refine compL_fun (mdI CM n ps.length) (fun m => .bl true) ms (fun m hm K1 K0 hK' => ?_) ?_
  · have e0 : tabD n m.steer = tabD n fun _ => 0 := tab_congr fun j _ => hs m hm j
    unfold mdI mdF
    rw [e0]
    walk_at "go"
    rw [rep0]
    refine ⟨few_of (by rw [tab_len]; omega), ?_⟩
    walk_at "go"
    refine ⟨plain_of (okk_tabL 63 _ _), plain_of (okk_tabL 63 _ _), ?_⟩
    rw [eqv_self 64 _ (okk_tabL 63 _ _)]
    exact hK'
  have e : ms.map (fun _ => D.bl true) = (ms.map fun _ => true).map D.bl := by rw [List.map_map]; rfl
  rw [e]
  walk_at "go"
  rw [blsOf_map]
  walk_at "go"
  rw [List.all_map, show (ms.all (id ∘ fun _ => true)) = true from List.all_eq_true.mpr fun _ _ => rfl]
  exact q
theorem okk_lstL (k n p : Nat) (R : Mat) : (D.lst (lstL n p R)).okk (k + 2) = true := by
  unfold D.okk
  exact okks_all fun d hd => by
    obtain ⟨j, _, rfl⟩ := List.mem_map.mp hd
    exact okk_tabL k p _
theorem okk_par (k n p : Nat) (m : Md) : (parT n p m).okk (k + 3) = true := by
  unfold parT D.okk
  refine okks_all fun d hd => ?_
  have hr : (D.lst (m.rows.map (rowW (n + 1)))).okk (k + 2) = true := by
    unfold D.okk
    exact okks_all fun d hd => by
      obtain ⟨r, _, rfl⟩ := List.mem_map.mp hd
      unfold rowW D.okk
      exact okk_tab _ _ _
  rcases List.mem_cons.mp hd with rfl | hd
  · exact hr
  rcases List.mem_cons.mp hd with rfl | hd
  · exact okk_lstL k _ _ _
  rcases List.mem_cons.mp hd with rfl | hd
  · exact okk_tabL (k + 1) _ _
  rcases List.mem_cons.mp hd with rfl | hd
  · exact okk_lstL k _ _ _
  rcases List.mem_cons.mp hd with rfl | hd
  · exact okk_tabL (k + 1) _ _
  · rw [List.mem_singleton.mp hd]
    rfl
theorem okk_pars (n p : Nat) (ms : List Md) : D.okk 64 (.lst (ms.map (parT n p))) = true := by
  unfold D.okk
  exact okks_all fun d hd => by
    obtain ⟨m, _, rfl⟩ := List.mem_map.mp hd
    exact okk_par 60 n p m
theorem okk_pDs (ps : List (Int × Int)) : D.okk 64 (.lst (ps.map pD)) = true := by
  unfold D.okk
  exact okks_all fun d hd => by
    obtain ⟨m, _, rfl⟩ := List.mem_map.mp hd
    rfl
theorem rd__law_right {K : PySem.W.Frag} {CM CT : Addr} (hT : ThK K CM CT) (hS : TtK K CT) (ds : List D) (Q E : EQ) (_ : ds.length = 4) (h : g__law_right CM CT ds Q E) : tb__law_right K CT CM (dE Q E) (startD N__law_right ds) := by
  obtain ⟨n, ps, ms, rfl, n1, n10, ml, hs, q⟩ := h
  have k1 := hT.f_Thing_many
  unfold tb__law_right dE
  walk_at "go"
  refine ⟨hT.i_Thing, ?_⟩
  rw [hS.k_Thing_Thing]
  walk_at "go"
  rw [decide_eq_true (rfl : (n : Int) = (n : Int))]
  walk_at "go"
  refine ⟨_, _, _, rfl, ?_⟩
  walk_at "go"
  refine ⟨plain_of (okk_pDs ps), plain_of (okk_pDs ps), ?_⟩
  rw [eqv_self 64 _ (okk_pDs ps)]
  walk_at "go"
  refine ⟨n, ps, ms, rfl, n1, n10, hs, ?_⟩
  walk_at "go"
  refine ⟨n, ps, ms, rfl, ml, ?_⟩
  walk_at "go"
  refine ⟨plain_of (okk_pars n _ ms), plain_of (okk_pars n _ ms), ?_⟩
  rw [eqv_self 64 _ (okk_pars n _ ms)]
  exact q
end K32

namespace K32
open PySem PySem.Spec
open PyProof.Rows L2 Dl
open Lp
abbrev tailT (K : PySem.W.Frag) (CS CM CT : Addr) : DS := (dSq (dSet 16 (dCall 2 [] (g__law_straight CS) (dCons (dCall 2 [] g__law_cell_at (dCons (dVar 0) (dCons (dC (.int 10)) dNil))) (dCons (dVar 2) dNil)))) (dSq (dSet 17 (dOp kAdd (dC (.int 1)) (dOp kMod (dCall 2 [] g__law_cell_at (dCons (dVar 0) (dCons (dC (.int 11)) dNil))) (dOp kIx (dLst (dCons (dC (.int 9)) (dCons (dOp kPow (dC (.int 10)) (dC (.int 20))) dNil))) (dOp kMod (dCall 2 [] g__law_cell_at (dCons (dVar 0) (dCons (dC (.int 10)) dNil))) (dC (.int 2))))))) (dSq (dOwn 13 (dLstN dNil)) (dSq (dFor (dSeq (dVar 4)) (gNm 15) (dSq (dOwn 8 (dCallN 3 g__law_put (dCons (dVar 15) (dCons (dLst dNil) (dCons (dTup (dCons (dFld K "numbers" (dVar 16)) (dCons (dFld K "add" (dVar 16)) (dCons (dFld K "divisor" (dVar 16)) dNil)))) dNil))))) (dSq (dPut 8 (dC (.int 3)) (dFz (dLcN (dRng1 (dVarP 2)) (gNm 18) dYes (dOp kAdd (dOp kIx (dOp kIx (dVarP 8) (dC (.int 3))) (dVarP 18)) (dCall 2 [] g__law_scaled (dCons (dFld K "numbers" (dVar 16)) (dCons (dOp kSub (dC (.int 0)) (dOp kIx (dOp kIx (dVarP 15) (dC (.int 2))) (dVarP 18))) dNil)))) [18]))) (dFrz 8 (dApp 13 (dVar 8)))))) (dFrz 13 (dSq (dIf (dNot (dTest (dCall 4 [] (g__law_right CM CT) (dCons (dCall 3 [] (g_rounded CS CM CT) (dCons (dVar 7) (dCons (dVar 16) (dCons (dVar 17) dNil)))) (dCons (dVar 2) (dCons (dOp kAdd (dVarP 6) (dOp kMul (dLst (dCons (dTup (dCons (dC (.int 0)) (dCons (dVar 17) dNil))) dNil)) (dVarP 2))) (dCons (dVar 13) dNil))))))) (dRet (dC (.bl false))) dNext) (dRet (dAndV (dOp kEq (dCall 1 [] (g__law_told CM CT) (dCons (dVar 7) dNil)) (dVarP 4)) (dOp kEq (dMeth CT "pushes" 1 (g_Thing_pushes CT) (dVar 7) dNil) (dVarP 6))))))))))
abbrev l1T : DS := (dSq (dOwn 13 (dAddN (dVarP 13) (dFz (dLcN (dSeq (dVar 10)) (gTp 2 (gCs (gNm 11) (gCs (gNm 12) gNl))) dYes (dFz (dCallN 3 g__law_put (dCons (dVar 15) (dCons (dVar 11) (dCons (dVar 12) dNil))))) [11, 12])))) (dSet 14 (dOp kAdd (dVarP 14) (dFz (dLcN (dSeq (dVar 10)) (gTp 2 (gCs (gNm 11) (gCs (gNm 12) gNl))) dYes (dCall 3 [] g__law_put_late (dCons (dVar 15) (dCons (dVar 11) (dCons (dVar 12) dNil)))) [11, 12])))))
abbrev l2T (K : PySem.W.Frag) : DS := (dSq (dOwn 8 (dCallN 3 g__law_put (dCons (dVar 15) (dCons (dLst dNil) (dCons (dTup (dCons (dFld K "numbers" (dVar 16)) (dCons (dFld K "add" (dVar 16)) (dCons (dFld K "divisor" (dVar 16)) dNil)))) dNil))))) (dSq (dPut 8 (dC (.int 3)) (dFz (dLcN (dRng1 (dVarP 2)) (gNm 18) dYes (dOp kAdd (dOp kIx (dOp kIx (dVarP 8) (dC (.int 3))) (dVarP 18)) (dCall 2 [] g__law_scaled (dCons (dFld K "numbers" (dVar 16)) (dCons (dOp kSub (dC (.int 0)) (dOp kIx (dOp kIx (dVarP 15) (dC (.int 2))) (dVarP 18))) dNil)))) [18]))) (dFrz 8 (dApp 13 (dVar 8)))))
theorem cut_le (a : List Int) (i j : Nat) : (cut a (some (i : Int)) (some (j : Int))).length ≤ j - i := by
  unfold cut
  rw [List.length_take, List.length_drop, HT.sIx_nat, HT.sIx_nat]
  omega
abbrev psR (c : Int) (p : Nat) : List (Int × Int) := (List.range p).map fun (k : Nat) => ((0 - (k : Int) - c, (k : Int) * (k : Int)) : Int × Int)
theorem psR_ok {c : Int} {p : Nat} (h0 : 0 ≤ c) : ∀ q ∈ psR c p, q.1 ≤ q.2 := fun q h => by
  obtain ⟨k, hk, rfl⟩ := List.mem_map.mp h
  show 0 - (k : Int) - c ≤ (k : Int) * (k : Int)
  have := Int.mul_nonneg (Int.natCast_nonneg k) (Int.natCast_nonneg k)
  omega
abbrev tolD (n : Nat) (pc : Pc) : D := .tup [.lst (pc.1.map (rowW (n + 1))), strD n pc.2]
theorem l1_loop {n p : Nat} {d : DE} {s0 s1 s2 s3 s4 s5 s6 s7 s8 s9 s16 s17 s18 : Sl} {pcs : List Pc} (n1 : 1 ≤ n) (n3 : n ≤ 3) (p3 : p ≤ 3) (hp : ∀ q ∈ pcs, okPc 14 q) : ∀ (l acc bcc : List Md) (s11 s12 s15 : Sl), (∀ m ∈ l, MdT m) → (acc ++ steerL n l pcs).length ≤ 1000 → (bcc ++ lateL n l pcs).length ≤ 1000 →
    (∀ s11 s12 s15 : Sl, d.nx [s0, s1, s2, s3, s4, s5, s6, s7, s8, s9, .sh (.lst (pcs.map (tolD n))), s11, s12, .ow ((acc ++ steerL n l pcs).map (parT n p)), .sh (.lst ((bcc ++ lateL n l pcs).map (parT (n + 1) p))), s15, s16, s17, s18]) →
    loopD (gNm 15) l1T d (l.map (parT n p)) [s0, s1, s2, s3, s4, s5, s6, s7, s8, s9, .sh (.lst (pcs.map (tolD n))), s11, s12, .ow (acc.map (parT n p)), .sh (.lst (bcc.map (parT (n + 1) p))), s15, s16, s17, s18]
  | [], acc, bcc, s11, s12, s15, hm, ha, hb, h => lp_nil (by have h := h s11 s12 s15; rw [show steerL n [] pcs = [] from rfl, show lateL n [] pcs = [] from rfl, List.append_nil, List.append_nil] at h; exact h)
  | m :: l, acc, bcc, s11, s12, s15, hm, ha, hb, h => by
    have ec : steerL n (m :: l) pcs = pcs.map (m.put n) ++ steerL n l pcs := List.flatMap_cons
    have ed : lateL n (m :: l) pcs = pcs.map (m.late n) ++ lateL n l pcs := List.flatMap_cons
    rw [ec, ed, ← List.append_assoc, ← List.append_assoc] at h
    rw [ec, ← List.append_assoc] at ha
    rw [ed, ← List.append_assoc] at hb
    have mo := hm m List.mem_cons_self
    have ha2 := ha
    have hb2 := hb
    rw [List.length_append, List.length_append, List.length_map] at ha2 hb2
    refine lp_cons ?_
    walk_at "go"
    refine compL_fun (tolD n) (fun q : Pc => parT n p (m.put n q)) pcs (fun q hq K1 K0 hK => ?_) ?_
    · have o := hp q hq
      walk_at "go"
      refine ⟨n, p, m, q, rfl, n3, by omega, by have := mo.rl; omega, Nat.le_trans o.1 (by decide), mo.s.mono (by decide), o.2.2, ?_⟩
      exact hK
    rw [show pcs.map (fun q => parT n p (m.put n q)) = (pcs.map (m.put n)).map (parT n p) by rw [List.map_map]; rfl]
    walk_at "go"
    rw [← List.map_append]
    refine compL_fun (tolD n) (fun q : Pc => parT (n + 1) p (m.late n q)) pcs (fun q hq K1 K0 hK => ?_) ?_
    · have o := hp q hq
      walk_at "go"
      refine ⟨n, p, m, q, rfl, n1, n3, by omega, by have := mo.rl; omega, Nat.le_trans o.1 (by decide), mo.s.mono (by decide), o.2.2, ?_⟩
      exact hK
    rw [show pcs.map (fun q => parT (n + 1) p (m.late n q)) = (pcs.map (m.late n)).map (parT (n + 1) p) by rw [List.map_map]; rfl]
    walk_at "go"
    rw [← List.map_append]
    exact l1_loop n1 n3 p3 hp l (acc ++ pcs.map (m.put n)) (bcc ++ pcs.map (m.late n)) _ _ _ (fun m h => hm m (List.mem_cons_of_mem _ h)) ha hb h
theorem l2_loop {K : PySem.W.Frag} {CM CT CS CP CA CR : Addr} (hR : RuK K CS CP CA CR) {n p : Nat} {d : DE} {z : Int} {s0 s1 s3 s4 s5 s6 s7 s9 s10 s11 s12 s14 s17 s18 : Sl} {f : Lf} (n1 : 1 ≤ n) (n3 : n ≤ 3) (p3 : p ≤ 3) (ol : okLf f) : ∀ (l acc : List Md) (s8 s15 : Sl), (∀ m ∈ l, MdT m) → acc.length + l.length ≤ 1000 →
    (∀ s8 s15 : Sl, d.nx [s0, s1, .sh (.int n), s3, s4, s5, s6, s7, s8, s9, s10, s11, s12, .ow ((acc ++ misL n p l f).map (parT n (p + n))), s14, s15, .sh (stI CS n f.1 f.2.1 f.2.2), s17, s18]) →
    loopD (gNm 15) (l2T K) d (l.map (parT n p)) [s0, s1, .sh (.int n), s3, s4, s5, s6, s7, s8, s9, s10, s11, s12, .ow (acc.map (parT n (p + n))), s14, s15, .sh (stI CS n f.1 f.2.1 f.2.2), s17, s18]
  | [], acc, s8, s15, hm, ha, h => lp_nil (by have h := h s8 s15; rw [show misL n p [] f = [] from rfl, List.append_nil] at h; exact h)
  | m :: l, acc, s8, s15, hm, ha, h => by
    have ec : misL n p (m :: l) f = m.mis n p f :: misL n p l f := rfl
    rw [List.length_cons] at ha
    have mo := hm m List.mem_cons_self
    have k7 := hR.f_Straight_numbers
    have k8 := hR.f_Straight_add
    have k9 := hR.f_Straight_divisor
    refine lp_cons ?_
    walk_at "go"
    refine ⟨n, p, m, ([], f), rfl, n3, by omega, by have := mo.rl; omega, Nat.zero_le _, mo.s.mono (by decide), ol, ?_⟩
    walk_at "go"
    rw [Int.toNat_natCast]
    refine compL_rng n (fun i => .lst (tabD (p + n) ((m.mis n p f).push i))) (fun i hi K1 K0 hK => ?_) ?_
    · have e1 : atI (lstL n p (m.put n ([], f)).push) (i : Int) = some (.lst (tabD p ((m.put n ([], f)).push i))) := by rw [atI_nn]; exact lstL_get hi
      have e2 : atI (tabD n m.steer) (i : Int) = some (.int (m.steer i)) := by rw [atI_nn, tab_get hi]
      walk_at "go"
      rw [e1]
      unfold Dl.stI
      walk_at "go"
      rw [e2]
      walk_at "go"
      refine ⟨n, f.1, 0 - m.steer i, rfl, fun j => bnd_mono (ol.1 j) (by decide), bnd_mono (bnd_subM (bnd_zero (k := 0)) (mo.s.steer i)) (by decide), ?_⟩
      walk_at "go"
      have e3 : tabD p ((m.put n ([], f)).push i) ++ tabD n (fun j => (0 - m.steer i) * f.1 j) = tabD (p + n) ((m.mis n p f).push i) := by
        rw [tab_app]
        rfl
      rw [e3]
      exact hK
    rw [show (List.range n).map (fun i => D.lst (tabD (p + n) ((m.mis n p f).push i))) = lstL n (p + n) (m.mis n p f).push from rfl]
    walk_at "go"
    have ih := l2_loop (CM := CM) (CT := CT) (CA := CA) (z := z) hR (d := d) (s0 := s0) (s1 := s1) (s3 := s3) (s4 := s4) (s5 := s5) (s6 := s6) (s7 := s7) (s9 := s9) (s10 := s10) (s11 := s11) (s12 := s12) (s14 := s14) (s17 := s17) (s18 := s18) n1 n3 p3 ol l (acc ++ [m.mis n p f]) (.sh (parT n (p + n) (m.mis n p f))) (.sh (parT n p m)) (fun m h => hm m (List.mem_cons_of_mem _ h)) (by rw [List.length_append, List.length_singleton]; omega) (fun s8 s15 => by
      have h := h s8 s15
      rw [ec, show m.mis n p f :: misL n p l f = [m.mis n p f] ++ misL n p l f from rfl, ← List.append_assoc] at h
      exact h)
    rw [List.map_append] at ih
    exact ih
theorem pick20 (x : Int) : ∃ z : Int, atI [D.int 9, D.int 100000000000000000000] (x.fmod 2) = some (.int z) ∧ 1 ≤ z ∧ z ≤ 100000000000000000000 := pickN _ 2 x rfl (by decide) (fun z => 1 ≤ z ∧ z ≤ 100000000000000000000) fun d hd => by
  rcases List.mem_cons.mp hd with rfl | hd
  · exact ⟨_, rfl, by decide, by decide⟩
  · rw [List.mem_singleton.mp hd]
    exact ⟨_, rfl, by decide, by decide⟩
theorem rd_law {K : PySem.W.Frag} {CM CT CB CO CS CP CA CR : Addr} (hT : ThK K CM CT) (hR : RuK K CS CP CA CR) (ds : List D) (Q E : EQ) (_ : ds.length = 1) (h : gLaw 63 ds Q E) : tb_law K CT CM CB CO CS CP CA (dE Q E) (startD N_law ds) := by
  obtain ⟨a, rfl, hl, hba, q⟩ := h
  have k7 := hR.f_Straight_numbers
  have k8 := hR.f_Straight_add
  have k9 := hR.f_Straight_divisor
  unfold tb_law dE
  walk_at "go"
  obtain ⟨c, hc⟩ : ∃ c, c = a.getD 0 0 := ⟨_, rfl⟩
  refine ⟨a, 0, _, rfl, .inl rfl, ?_⟩
  rw [← hc]
  walk_at "go"
  have m1 := Int.fmod_nonneg_of_pos c (show (0 : Int) < 3 by decide)
  have m2 := Int.fmod_lt_of_pos c (show (0 : Int) < 3 by decide)
  obtain ⟨n, en, n1, n3⟩ : ∃ n : Nat, 1 + c.fmod 3 = (n : Int) ∧ 1 ≤ n ∧ n ≤ 3 := ⟨(1 + c.fmod 3).toNat, by omega, by omega, by omega⟩
  have m3 := Int.fmod_nonneg_of_pos (c.fdiv 3) (show (0 : Int) < 4 by decide)
  have m4 := Int.fmod_lt_of_pos (c.fdiv 3) (show (0 : Int) < 4 by decide)
  obtain ⟨p, ep, p3⟩ : ∃ p : Nat, (c.fdiv 3).fmod 4 = (p : Int) ∧ p ≤ 3 := ⟨((c.fdiv 3).fmod 4).toNat, by omega, by omega⟩
  have m5 := Int.fmod_nonneg_of_pos (c.fdiv 12) (show (0 : Int) < 3 by decide)
  have m6 := Int.fmod_lt_of_pos (c.fdiv 12) (show (0 : Int) < 3 by decide)
  obtain ⟨l, el, l1, l3⟩ : ∃ l : Nat, 1 + (c.fdiv 12).fmod 3 = (l : Int) ∧ 1 ≤ l ∧ l ≤ 3 := ⟨(1 + (c.fdiv 12).fmod 3).toNat, by omega, by omega, by omega⟩
  rw [en, ep, el]
  walk_at "go"
  rw [Int.toNat_natCast, irg0]
  refine compL_gen (parT n p) MdT _ (fun e he K1 K0 hK => ?_) fun ms mlen md => ?_
  · obtain ⟨j, hj, rfl⟩ := List.mem_map.mp he
    have hj := List.mem_range.mp hj
    walk_at "go"
    refine ⟨a, 1 + j, _, by rw [show (1 : Int) + (j : Int) = ((1 + j : Nat) : Int) by omega], .inl rfl, ?_⟩
    walk_at "go"
    exact ⟨_, n, p, rfl, n1, n3, by omega, fun m hm => hK m hm⟩
  rw [List.length_map, List.length_range] at mlen
  walk_at "go"
  have m7 := Int.fmod_nonneg_of_pos (c.fdiv 36) (show (0 : Int) < 5 by decide)
  rw [Int.toNat_natCast]
  refine compL_rng p (fun k => pD (0 - (k : Int) - (c.fdiv 36).fmod 5, (k : Int) * (k : Int))) (fun k hk K1 K0 hK => ?_) ?_
  · walk_at "go"
    exact hK
  have ps := psR_ok (p := p) m7
  rw [show (List.range p).map (fun k : Nat => pD (0 - (k : Int) - (c.fdiv 36).fmod 5, (k : Int) * (k : Int))) = (psR ((c.fdiv 36).fmod 5) p).map pD from by rw [List.map_map]; rfl]
  have pl : p = (psR ((c.fdiv 36).fmod 5) p).length := by rw [List.length_map, List.length_range]
  generalize psR ((c.fdiv 36).fmod 5) p = bs at *
  subst pl
  walk_at "go"
  refine compL_fun (parT n bs.length) (mdI CM n bs.length) ms (fun m hm K1 K0 hK => ?_) ?_
  · unfold parT
    walk_at "go"
    exact ⟨_, _, _, _, _, _, rfl, ko_rows _ _, ko_lstL _ _ _, ko_tab _ _, ko_lstL _ _ _, ko_tab _ _, hK⟩
  walk_at "go"
  have m0 : ms ≠ [] := fun z => by rw [z, List.length_nil] at mlen; omega
  obtain ⟨t1, t2, t3, t4, t5⟩ := thing_ok (CM := CM) n1 n3 (show bs.length ≤ 6 by omega) (fun q h => ps q h) m0 (by omega) fun m h => (md m h).s.div
  refine ⟨_, _, _, rfl, t1, t2, t3, ?_⟩
  rw [if_pos t4, if_neg t5, show D.ins CT (thF (.int n) (.lst (bs.map pD)) (.lst (ms.map (mdI CM n bs.length)))) = thI CT n bs (ms.map (mdI CM n bs.length)) from rfl]
  walk_at "go"
  have m9 := Int.fmod_nonneg_of_pos (c.fdiv 36) (show (0 : Int) < 4 by decide)
  have m10 := Int.fmod_lt_of_pos (c.fdiv 36) (show (0 : Int) < 4 by decide)
  obtain ⟨j4, ej4, j42⟩ : ∃ j : Nat, 5 + (c.fdiv 36).fmod 4 = (j : Int) ∧ j ≤ 8 := ⟨(5 + (c.fdiv 36).fmod 4).toNat, by omega, by omega⟩
  rw [ej4, cut_map]
  refine ⟨_, n, rfl, Nat.le_trans (cut_le a 4 j4) (by omega), n1, n3, fun r ro rc rd => ?_⟩
  have cnt := rcut_len n r
  have rk : ∀ q ∈ rcut n r, okPc 14 q := fun q hq => (rcut_ok n r ro q hq).mono (by omega)
  walk_at "go"
  refine ⟨n, r, rfl, n1, n3, ro, by omega, by omega, ?_⟩
  walk_at "go"
  refine compL_fun (pieD CS n) (tolD n) (rcut n r) (fun q hq K1 K0 hK => ?_) ?_
  · unfold pieD Dl.stI
    walk_at "go"
    exact hK
  walk_at "go"
  have cm : r.cnt * ms.length ≤ 40 := Nat.le_trans (Nat.mul_le_mul rc (show ms.length ≤ 3 by omega)) (by decide)
  have sl := steerL_len n (rcut n r) ms
  have ll := crossL_len (Md.late n) (rcut n r) ms
  rw [cnt] at sl ll
  refine l1_loop n1 n3 (by omega) rk ms [] [] _ _ _ md (by rw [List.nil_append]; omega) (by rw [List.nil_append]; show (crossL (Md.late n) ms (rcut n r)).length ≤ 1000; omega) fun s11 s12 s15 => ?_
  rw [List.nil_append, List.nil_append]
  walk_at "go"
  have mm : ∀ m ∈ ms, MdS 95 m ∧ m.rows.length ≤ 100 := fun m h => ⟨(md m h).s.mono (by decide), by have := (md m h).rl; omega⟩
  refine ⟨n, bs, ms, r, rfl, n1, n3, by omega, ps, m0, mm, ro, cm, by omega, ?_⟩
  walk_at "go"
  refine ⟨n, bs, steerL n ms (rcut n r), rfl, n1, by omega, by omega, fun m h j => by obtain ⟨o, ho, pc, hp, rfl⟩ := steerL_mem h; rfl, ?_⟩
  walk_at "go"
  have tail : ∀ (d : DE) (s5 s8 s11 s12 s14 s15 s16 s17 s18 : Sl), d.rt = Q → d.ex = (fun _ => E) → tailT K CS CM CT d [.sh (.frl (a.map .int)), .sh (.int c), .sh (.int n), .sh (.int bs.length), .sh (.lst (ms.map (parT n bs.length))), s5, .sh (.lst (bs.map pD)), .sh (thI CT n bs (ms.map (mdI CM n bs.length))), s8, .sh (ruD CS CP CA n r), .sh (.lst ((rcut n r).map (tolD n))), s11, s12, .sh (.lst ((steerL n ms (rcut n r)).map (parT n bs.length))), s14, s15, s16, s17, s18] := by
    intro d s5 s8 s11 s12 s14 s15 s16 s17 s18 e1 e2
    obtain ⟨nx, rt, bk, ct, ex, rt1, rt2⟩ := d
    have e1 : rt = Q := e1
    subst e1
    have e2 : ex = fun _ => E := e2
    subst e2
    unfold tailT
    walk_at "go"
    refine ⟨a, 10, _, rfl, .inl rfl, ?_⟩
    walk_at "go"
    refine ⟨_, n, rfl, n1, n3, fun f e g ol => ?_⟩
    walk_at "go"
    refine ⟨a, 11, _, rfl, .inl rfl, ?_⟩
    walk_at "go"
    refine ⟨a, 10, _, rfl, .inl rfl, ?_⟩
    walk_at "go"
    obtain ⟨z, ez, z1, z6⟩ := pick20 (a.getD 10 0)
    have dk : divOk z := div_of (by omega) (bnd_mono (bnd_of (k := 68) (by omega) (by omega)) (by decide))
    rw [ez]
    walk_at "go"
    have w1 := Int.fmod_nonneg_of_pos (a.getD 11 0) (show 0 < z by omega)
    obtain ⟨b, hb, b1⟩ : ∃ b, 1 + (a.getD 11 0).fmod z = b ∧ 1 ≤ b := ⟨_, rfl, by omega⟩
    rw [hb]
    refine l2_loop (CM := CM) (CT := CT) (CA := CA) (z := z) hR (f := (f, e, g)) n1 n3 (by omega) ol ms [] _ _ md (by rw [List.length_nil]; omega) fun s8 s15 => ?_
    rw [List.nil_append]
    walk_at "go"
    refine ⟨n, bs, ms, (f, e, g), b, rfl, n1, n3, by omega, ps, m0, by omega, mm, ol, b1, ?_⟩
    walk_at "go"
    rw [show (List.replicate (n : Int).toNat [D.tup [.int 0, .int b]]).flatten = (List.replicate n ((0 : Int), b)).map pD by rw [Int.toNat_natCast, List.map_replicate]; exact List.flatten_replicate_singleton]
    refine ⟨few_of (by rw [List.length_map, List.length_replicate]; omega), ?_⟩
    walk_at "go"
    rw [← List.map_append, show bs.length + n = (bs ++ List.replicate n ((0 : Int), b)).length by rw [List.length_append, List.length_replicate]]
    have lm : (misL n bs.length ms (f, e, g)).length = ms.length := by unfold misL; rw [List.length_map]
    refine ⟨n, bs ++ List.replicate n ((0 : Int), b), misL n bs.length ms (f, e, g), rfl, n1, by omega, by omega, fun m h j => by obtain ⟨o, ho, rfl⟩ := List.mem_map.mp h; rfl, ?_⟩
    walk_at "go"
    refine ⟨n, bs, ms, rfl, by omega, ?_⟩
    walk_at "go"
    refine ⟨plain_of (okk_pars n _ ms), plain_of (okk_pars n _ ms), ?_⟩
    rw [eqv_self 64 _ (okk_pars n _ ms)]
    walk_at "go"
    refine ⟨_, _, _, rfl, ?_⟩
    walk_at "go"
    refine ⟨plain_of (okk_pDs bs), plain_of (okk_pDs bs), ?_⟩
    rw [eqv_self 64 _ (okk_pDs bs)]
    exact q
  by_cases c3 : (n : Int) < 3
  · rw [decide_eq_true c3]
    walk_at "go"
    refine ⟨n, bs, ms, r, rfl, n1, by omega, by omega, ps, m0, mm, ro, cm, by omega, ?_⟩
    walk_at "go"
    refine ⟨n + 1, bs, lateL n ms (rcut n r), rfl, by omega, by omega, by show (crossL (Md.late n) ms (rcut n r)).length ≤ 1000; omega, fun m h j => by obtain ⟨o, ho, pc, hp, rfl⟩ := crossL_mem h; rfl, ?_⟩
    exact tail _ _ _ _ _ _ _ _ _ _ rfl rfl
  · rw [decide_eq_false c3]
    exact tail _ _ _ _ _ _ _ _ _ _ rfl rfl
end K32

end
namespace K32
open PySem PySem.Spec
open PyProof.Rows L2 Dl
theorem al1 {fd : FuncData} {ps : List Str} (h : ∀ a0 : Value, bindArgs fd ⟨[a0], []⟩ = pure (ps.zip [a0])) : ∀ us : List Value, us.length = 1 → bindArgs fd ⟨us, []⟩ = pure (ps.zip us)
  | [_], _ => h _
theorem al2 {fd : FuncData} {ps : List Str} (h : ∀ a0 a1 : Value, bindArgs fd ⟨[a0, a1], []⟩ = pure (ps.zip [a0, a1])) : ∀ us : List Value, us.length = 2 → bindArgs fd ⟨us, []⟩ = pure (ps.zip us)
  | [_, _], _ => h _ _
theorem al3 {fd : FuncData} {ps : List Str} (h : ∀ a0 a1 a2 : Value, bindArgs fd ⟨[a0, a1, a2], []⟩ = pure (ps.zip [a0, a1, a2])) : ∀ us : List Value, us.length = 3 → bindArgs fd ⟨us, []⟩ = pure (ps.zip us)
  | [_, _, _], _ => h _ _ _
theorem al4 {fd : FuncData} {ps : List Str} (h : ∀ a0 a1 a2 a3 : Value, bindArgs fd ⟨[a0, a1, a2, a3], []⟩ = pure (ps.zip [a0, a1, a2, a3])) : ∀ us : List Value, us.length = 4 → bindArgs fd ⟨us, []⟩ = pure (ps.zip us)
  | [_, _, _, _], _ => h _ _ _ _
theorem al7 {fd : FuncData} {ps : List Str} (h : ∀ a0 a1 a2 a3 a4 a5 a6 : Value, bindArgs fd ⟨[a0, a1, a2, a3, a4, a5, a6], []⟩ = pure (ps.zip [a0, a1, a2, a3, a4, a5, a6])) : ∀ us : List Value, us.length = 7 → bindArgs fd ⟨us, []⟩ = pure (ps.zip us)
  | [_, _, _, _, _, _, _], _ => h _ _ _ _ _ _ _
theorem all_mk {l : PySem.W.OpenLaw} {w : World} {K : PySem.W.Frag} {h : Heap} {mg : Str → Option Value} {fa f0 f1 f2 f3 f4 f5 f6 f7 f8 f9 f10 f11 f12 f13 f14 f15 f16 f17 f18 f19 f20 f21 f22 f23 f24 f25 f26 f27 f28 f29 f30 f31 f32 f33 f34 f35 f36 f37 f38 f39 f40 f41 f42 f43 f44 f45 f46 f47 f48 C_BadThing C_TooMany C_Mode C_Thing C_Rule C_Straight C_Stopped C_Parted : Addr} (X : K.In h) (G : h.Ns mainGlobals mg) (hfa : mg "law" = some (.ref fa))
    {oc0 kV0 doc0 pm0 cd0 ct0 : Value} {od0 an0 : Option Addr} {sl0 : Array (Option Value)}
    {oc1 kV1 doc1 pm1 cd1 ct1 : Value} {od1 an1 : Option Addr} {sl1 : Array (Option Value)}
    {oc2 kV2 doc2 pm2 cd2 ct2 : Value} {od2 an2 : Option Addr} {sl2 : Array (Option Value)}
    {oc3 kV3 doc3 pm3 cd3 ct3 : Value} {od3 an3 : Option Addr} {sl3 : Array (Option Value)}
    {oc4 kV4 doc4 pm4 cd4 ct4 : Value} {od4 an4 : Option Addr} {sl4 : Array (Option Value)}
    {oc5 kV5 doc5 pm5 cd5 ct5 : Value} {od5 an5 : Option Addr} {sl5 : Array (Option Value)}
    {oc6 kV6 doc6 pm6 cd6 ct6 : Value} {od6 an6 : Option Addr} {sl6 : Array (Option Value)}
    {oc7 kV7 doc7 pm7 cd7 ct7 : Value} {od7 an7 : Option Addr} {sl7 : Array (Option Value)}
    {oc8 kV8 doc8 pm8 cd8 ct8 : Value} {od8 an8 : Option Addr} {sl8 : Array (Option Value)}
    {oc9 kV9 doc9 pm9 cd9 ct9 : Value} {od9 an9 : Option Addr} {sl9 : Array (Option Value)}
    {oc10 kV10 doc10 pm10 cd10 ct10 : Value} {od10 an10 : Option Addr} {sl10 : Array (Option Value)}
    {oc11 kV11 doc11 pm11 cd11 ct11 : Value} {od11 an11 : Option Addr} {sl11 : Array (Option Value)}
    {oc12 kV12 doc12 pm12 cd12 ct12 : Value} {od12 an12 : Option Addr} {sl12 : Array (Option Value)}
    {oc13 kV13 doc13 pm13 cd13 ct13 : Value} {od13 an13 : Option Addr} {sl13 : Array (Option Value)}
    {oc14 kV14 doc14 pm14 cd14 ct14 : Value} {od14 an14 : Option Addr} {sl14 : Array (Option Value)}
    {dT15 : Addr} {tc15 : Value} {td15 : Option Addr} {tn15 : Nat} {ts15 : Array (Option Value)} {tk15_0 : Tok}
    {oc15 kV15 doc15 pm15 cd15 ct15 : Value} {od15 an15 : Option Addr} {sl15 : Array (Option Value)}
    {oc16 kV16 doc16 pm16 cd16 ct16 : Value} {od16 an16 : Option Addr} {sl16 : Array (Option Value)}
    {oc17 kV17 doc17 pm17 cd17 ct17 : Value} {od17 an17 : Option Addr} {sl17 : Array (Option Value)}
    {oc18 kV18 doc18 pm18 cd18 ct18 : Value} {od18 an18 : Option Addr} {sl18 : Array (Option Value)}
    {oc19 kV19 doc19 pm19 cd19 ct19 : Value} {od19 an19 : Option Addr} {sl19 : Array (Option Value)}
    {oc20 kV20 doc20 pm20 cd20 ct20 : Value} {od20 an20 : Option Addr} {sl20 : Array (Option Value)}
    {oc21 kV21 doc21 pm21 cd21 ct21 : Value} {od21 an21 : Option Addr} {sl21 : Array (Option Value)}
    {oc22 kV22 doc22 pm22 cd22 ct22 : Value} {od22 an22 : Option Addr} {sl22 : Array (Option Value)}
    {oc23 kV23 doc23 pm23 cd23 ct23 : Value} {od23 an23 : Option Addr} {sl23 : Array (Option Value)}
    {oc24 kV24 doc24 pm24 cd24 ct24 : Value} {od24 an24 : Option Addr} {sl24 : Array (Option Value)}
    {oc25 kV25 doc25 pm25 cd25 ct25 : Value} {od25 an25 : Option Addr} {sl25 : Array (Option Value)}
    {oc26 kV26 doc26 pm26 cd26 ct26 : Value} {od26 an26 : Option Addr} {sl26 : Array (Option Value)}
    {oc27 kV27 doc27 pm27 cd27 ct27 : Value} {od27 an27 : Option Addr} {sl27 : Array (Option Value)}
    {oc28 kV28 doc28 pm28 cd28 ct28 : Value} {od28 an28 : Option Addr} {sl28 : Array (Option Value)}
    {oc29 kV29 doc29 pm29 cd29 ct29 : Value} {od29 an29 : Option Addr} {sl29 : Array (Option Value)}
    {oc30 kV30 doc30 pm30 cd30 ct30 : Value} {od30 an30 : Option Addr} {sl30 : Array (Option Value)}
    {oc31 kV31 doc31 pm31 cd31 ct31 : Value} {od31 an31 : Option Addr} {sl31 : Array (Option Value)}
    {oc32 kV32 doc32 pm32 cd32 ct32 : Value} {od32 an32 : Option Addr} {sl32 : Array (Option Value)}
    {oc33 kV33 doc33 pm33 cd33 ct33 : Value} {od33 an33 : Option Addr} {sl33 : Array (Option Value)}
    {oc34 kV34 doc34 pm34 cd34 ct34 : Value} {od34 an34 : Option Addr} {sl34 : Array (Option Value)}
    {oc35 kV35 doc35 pm35 cd35 ct35 : Value} {od35 an35 : Option Addr} {sl35 : Array (Option Value)}
    {oc36 kV36 doc36 pm36 cd36 ct36 : Value} {od36 an36 : Option Addr} {sl36 : Array (Option Value)}
    {oc37 kV37 doc37 pm37 cd37 ct37 : Value} {od37 an37 : Option Addr} {sl37 : Array (Option Value)}
    {oc38 kV38 doc38 pm38 cd38 ct38 : Value} {od38 an38 : Option Addr} {sl38 : Array (Option Value)}
    {oc39 kV39 doc39 pm39 cd39 ct39 : Value} {od39 an39 : Option Addr} {sl39 : Array (Option Value)}
    {oc40 kV40 doc40 pm40 cd40 ct40 : Value} {od40 an40 : Option Addr} {sl40 : Array (Option Value)}
    {oc41 kV41 doc41 pm41 cd41 ct41 : Value} {od41 an41 : Option Addr} {sl41 : Array (Option Value)}
    {oc42 kV42 doc42 pm42 cd42 ct42 : Value} {od42 an42 : Option Addr} {sl42 : Array (Option Value)}
    {oc43 kV43 doc43 pm43 cd43 ct43 : Value} {od43 an43 : Option Addr} {sl43 : Array (Option Value)}
    {oc44 kV44 doc44 pm44 cd44 ct44 : Value} {od44 an44 : Option Addr} {sl44 : Array (Option Value)}
    {oc45 kV45 doc45 pm45 cd45 ct45 : Value} {od45 an45 : Option Addr} {sl45 : Array (Option Value)}
    {oc46 kV46 doc46 pm46 cd46 ct46 : Value} {od46 an46 : Option Addr} {sl46 : Array (Option Value)}
    {oc47 kV47 doc47 pm47 cd47 ct47 : Value} {od47 an47 : Option Addr} {sl47 : Array (Option Value)}
    {oc48 kV48 doc48 pm48 cd48 ct48 : Value} {od48 an48 : Option Addr} {sl48 : Array (Option Value)}
    {tg_MOST_MODES : Tok}
    {tg_MOST_NUMBERS : Tok}
    {tg_MOST_PIECES : Tok}
    {tg_MOST_PUSHES : Tok}
    (aC_BadThing : PySem.W.nsIn K mainGlobals "BadThing" = some (some (.ref C_BadThing)))
    (aC_TooMany : PySem.W.nsIn K mainGlobals "TooMany" = some (some (.ref C_TooMany)))
    (aC_Mode : PySem.W.nsIn K mainGlobals "Mode" = some (some (.ref C_Mode)))
    (aC_Thing : PySem.W.nsIn K mainGlobals "Thing" = some (some (.ref C_Thing)))
    (aC_Rule : PySem.W.nsIn K mainGlobals "Rule" = some (some (.ref C_Rule)))
    (aC_Straight : PySem.W.nsIn K mainGlobals "Straight" = some (some (.ref C_Straight)))
    (aC_Stopped : PySem.W.nsIn K mainGlobals "Stopped" = some (some (.ref C_Stopped)))
    (aC_Parted : PySem.W.nsIn K mainGlobals "Parted" = some (some (.ref C_Parted)))
    (a0 : PySem.W.nsIn K mainGlobals "is_whole" = some (some (.ref f0)))
    (l0 : K.lookup f0 = some ⟨oc0, od0, .func (PySem.W.fnOf "is_whole" "is_whole" (defArgs s_is_whole) (defBody s_is_whole) (defScope s_is_whole) .none kV0 doc0 pm0 an0 cd0 ct0), sl0⟩)
    (c0 : PySem.W.codeIn K cd0 "is_whole" = true)
    (k0 : PySem.W.keepIn K (.ref f0) = true)
    (a1 : PySem.W.nsIn K mainGlobals "own" = some (some (.ref f1)))
    (l1 : K.lookup f1 = some ⟨oc1, od1, .func (PySem.W.fnOf "own" "own" (defArgs s_own) (defBody s_own) (defScope s_own) .none kV1 doc1 pm1 an1 cd1 ct1), sl1⟩)
    (c1 : PySem.W.codeIn K cd1 "own" = true)
    (k1 : PySem.W.keepIn K (.ref f1) = true)
    (a2 : PySem.W.nsIn K mainGlobals "own_list" = some (some (.ref f2)))
    (l2 : K.lookup f2 = some ⟨oc2, od2, .func (PySem.W.fnOf "own_list" "own_list" (defArgs s_own_list) (defBody s_own_list) (defScope s_own_list) .none kV2 doc2 pm2 an2 cd2 ct2), sl2⟩)
    (c2 : PySem.W.codeIn K cd2 "own_list" = true)
    (k2 : PySem.W.keepIn K (.ref f2) = true)
    (a3 : PySem.W.nsIn K mainGlobals "are_wholes" = some (some (.ref f3)))
    (l3 : K.lookup f3 = some ⟨oc3, od3, .func (PySem.W.fnOf "are_wholes" "are_wholes" (defArgs s_are_wholes) (defBody s_are_wholes) (defScope s_are_wholes) .none kV3 doc3 pm3 an3 cd3 ct3), sl3⟩)
    (c3 : PySem.W.codeIn K cd3 "are_wholes" = true)
    (k3 : PySem.W.keepIn K (.ref f3) = true)
    (a4 : PySem.W.nsIn K mainGlobals "is_row" = some (some (.ref f4)))
    (l4 : K.lookup f4 = some ⟨oc4, od4, .func (PySem.W.fnOf "is_row" "is_row" (defArgs s_is_row) (defBody s_is_row) (defScope s_is_row) .none kV4 doc4 pm4 an4 cd4 ct4), sl4⟩)
    (c4 : PySem.W.codeIn K cd4 "is_row" = true)
    (k4 : PySem.W.keepIn K (.ref f4) = true)
    (a5 : PySem.W.nsIn K mainGlobals "is_room" = some (some (.ref f5)))
    (l5 : K.lookup f5 = some ⟨oc5, od5, .func (PySem.W.fnOf "is_room" "is_room" (defArgs s_is_room) (defBody s_is_room) (defScope s_is_room) .none kV5 doc5 pm5 an5 cd5 ct5), sl5⟩)
    (c5 : PySem.W.codeIn K cd5 "is_room" = true)
    (k5 : PySem.W.keepIn K (.ref f5) = true)
    (a6 : PySem.W.nsIn K mainGlobals "is_table" = some (some (.ref f6)))
    (l6 : K.lookup f6 = some ⟨oc6, od6, .func (PySem.W.fnOf "is_table" "is_table" (defArgs s_is_table) (defBody s_is_table) (defScope s_is_table) .none kV6 doc6 pm6 an6 cd6 ct6), sl6⟩)
    (c6 : PySem.W.codeIn K cd6 "is_table" = true)
    (k6 : PySem.W.keepIn K (.ref f6) = true)
    (a7 : PySem.W.findIn K (.ref C_Mode) "__init__" = some (some (.ref f7)))
    (l7 : K.lookup f7 = some ⟨oc7, od7, .func (PySem.W.fnOf "__init__" "Mode.__init__" (defArgs s_Mode_init) (defBody s_Mode_init) (defScope s_Mode_init) .none kV7 doc7 pm7 an7 cd7 ct7), sl7⟩)
    (c7 : PySem.W.codeIn K cd7 "Mode.__init__" = true)
    (k7 : PySem.W.keepIn K (.ref f7) = true)
    (n7 : PySem.W.isFn K (.ref f7) = true)
    (a8 : PySem.W.nsIn K mainGlobals "is_mode" = some (some (.ref f8)))
    (l8 : K.lookup f8 = some ⟨oc8, od8, .func (PySem.W.fnOf "is_mode" "is_mode" (defArgs s_is_mode) (defBody s_is_mode) (defScope s_is_mode) .none kV8 doc8 pm8 an8 cd8 ct8), sl8⟩)
    (c8 : PySem.W.codeIn K cd8 "is_mode" = true)
    (k8 : PySem.W.keepIn K (.ref f8) = true)
    (a9 : PySem.W.nsIn K mainGlobals "is_push" = some (some (.ref f9)))
    (l9 : K.lookup f9 = some ⟨oc9, od9, .func (PySem.W.fnOf "is_push" "is_push" (defArgs s_is_push) (defBody s_is_push) (defScope s_is_push) .none kV9 doc9 pm9 an9 cd9 ct9), sl9⟩)
    (c9 : PySem.W.codeIn K cd9 "is_push" = true)
    (k9 : PySem.W.keepIn K (.ref f9) = true)
    (a10 : PySem.W.findIn K (.ref C_Thing) "__init__" = some (some (.ref f10)))
    (l10 : K.lookup f10 = some ⟨oc10, od10, .func (PySem.W.fnOf "__init__" "Thing.__init__" (defArgs s_Thing_init) (defBody s_Thing_init) (defScope s_Thing_init) .none kV10 doc10 pm10 an10 cd10 ct10), sl10⟩)
    (c10 : PySem.W.codeIn K cd10 "Thing.__init__" = true)
    (k10 : PySem.W.keepIn K (.ref f10) = true)
    (n10 : PySem.W.isFn K (.ref f10) = true)
    (a11 : PySem.W.findIn K (.ref C_Thing) "pushes" = some (some (.ref f11)))
    (l11 : K.lookup f11 = some ⟨oc11, od11, .func (PySem.W.fnOf "pushes" "Thing.pushes" (defArgs s_Thing_pushes) (defBody s_Thing_pushes) (defScope s_Thing_pushes) .none kV11 doc11 pm11 an11 cd11 ct11), sl11⟩)
    (c11 : PySem.W.codeIn K cd11 "Thing.pushes" = true)
    (k11 : PySem.W.keepIn K (.ref f11) = true)
    (n11 : PySem.W.isFn K (.ref f11) = true)
    (a12 : PySem.W.findIn K (.ref C_Thing) "modes" = some (some (.ref f12)))
    (l12 : K.lookup f12 = some ⟨oc12, od12, .func (PySem.W.fnOf "modes" "Thing.modes" (defArgs s_Thing_modes) (defBody s_Thing_modes) (defScope s_Thing_modes) .none kV12 doc12 pm12 an12 cd12 ct12), sl12⟩)
    (c12 : PySem.W.codeIn K cd12 "Thing.modes" = true)
    (k12 : PySem.W.keepIn K (.ref f12) = true)
    (n12 : PySem.W.isFn K (.ref f12) = true)
    (a13 : PySem.W.findIn K (.ref C_Thing) "is_closed" = some (some (.ref f13)))
    (l13 : K.lookup f13 = some ⟨oc13, od13, .func (PySem.W.fnOf "is_closed" "Thing.is_closed" (defArgs s_Thing_is_closed) (defBody s_Thing_is_closed) (defScope s_Thing_is_closed) .none kV13 doc13 pm13 an13 cd13 ct13), sl13⟩)
    (c13 : PySem.W.codeIn K cd13 "Thing.is_closed" = true)
    (k13 : PySem.W.keepIn K (.ref f13) = true)
    (n13 : PySem.W.isFn K (.ref f13) = true)
    (a14 : PySem.W.findIn K (.ref C_Rule) "counted" = some (some (.ref f14)))
    (l14 : K.lookup f14 = some ⟨oc14, od14, .func (PySem.W.fnOf "counted" "Rule.counted" (defArgs s_Rule_counted) (defBody s_Rule_counted) (defScope s_Rule_counted) .none kV14 doc14 pm14 an14 cd14 ct14), sl14⟩)
    (c14 : PySem.W.codeIn K cd14 "Rule.counted" = true)
    (k14 : PySem.W.keepIn K (.ref f14) = true)
    (n14 : PySem.W.isFn K (.ref f14) = true)
    (a15 : PySem.W.findIn K (.ref C_Straight) "__init__" = some (some (.ref f15)))
    (l15 : K.lookup f15 = some ⟨oc15, od15, .func (PySem.W.fnOf "__init__" "Straight.__init__" (defArgs s_Straight_init) (defBody s_Straight_init) (defScope s_Straight_init) (.ref dT15) kV15 doc15 pm15 an15 cd15 ct15), sl15⟩)
    (c15 : PySem.W.codeIn K cd15 "Straight.__init__" = true)
    (k15 : PySem.W.keepIn K (.ref f15) = true)
    (n15 : PySem.W.isFn K (.ref f15) = true)
    (t15 : K.lookup dT15 = some ⟨tc15, td15, .seq #[.int 1 tk15_0] tn15, ts15⟩)
    (a16 : PySem.W.findIn K (.ref C_Straight) "fits" = some (some (.ref f16)))
    (l16 : K.lookup f16 = some ⟨oc16, od16, .func (PySem.W.fnOf "fits" "Straight.fits" (defArgs s_Straight_fits) (defBody s_Straight_fits) (defScope s_Straight_fits) .none kV16 doc16 pm16 an16 cd16 ct16), sl16⟩)
    (c16 : PySem.W.codeIn K cd16 "Straight.fits" = true)
    (k16 : PySem.W.keepIn K (.ref f16) = true)
    (n16 : PySem.W.isFn K (.ref f16) = true)
    (a17 : PySem.W.findIn K (.ref C_Straight) "cut" = some (some (.ref f17)))
    (l17 : K.lookup f17 = some ⟨oc17, od17, .func (PySem.W.fnOf "cut" "Straight.cut" (defArgs s_Straight_cut) (defBody s_Straight_cut) (defScope s_Straight_cut) .none kV17 doc17 pm17 an17 cd17 ct17), sl17⟩)
    (c17 : PySem.W.codeIn K cd17 "Straight.cut" = true)
    (k17 : PySem.W.keepIn K (.ref f17) = true)
    (n17 : PySem.W.isFn K (.ref f17) = true)
    (a18 : PySem.W.findIn K (.ref C_Stopped) "__init__" = some (some (.ref f18)))
    (l18 : K.lookup f18 = some ⟨oc18, od18, .func (PySem.W.fnOf "__init__" "Stopped.__init__" (defArgs s_Stopped_init) (defBody s_Stopped_init) (defScope s_Stopped_init) .none kV18 doc18 pm18 an18 cd18 ct18), sl18⟩)
    (c18 : PySem.W.codeIn K cd18 "Stopped.__init__" = true)
    (k18 : PySem.W.keepIn K (.ref f18) = true)
    (n18 : PySem.W.isFn K (.ref f18) = true)
    (a19 : PySem.W.findIn K (.ref C_Stopped) "fits" = some (some (.ref f19)))
    (l19 : K.lookup f19 = some ⟨oc19, od19, .func (PySem.W.fnOf "fits" "Stopped.fits" (defArgs s_Stopped_fits) (defBody s_Stopped_fits) (defScope s_Stopped_fits) .none kV19 doc19 pm19 an19 cd19 ct19), sl19⟩)
    (c19 : PySem.W.codeIn K cd19 "Stopped.fits" = true)
    (k19 : PySem.W.keepIn K (.ref f19) = true)
    (n19 : PySem.W.isFn K (.ref f19) = true)
    (a20 : PySem.W.findIn K (.ref C_Stopped) "counted" = some (some (.ref f20)))
    (l20 : K.lookup f20 = some ⟨oc20, od20, .func (PySem.W.fnOf "counted" "Stopped.counted" (defArgs s_Stopped_counted) (defBody s_Stopped_counted) (defScope s_Stopped_counted) .none kV20 doc20 pm20 an20 cd20 ct20), sl20⟩)
    (c20 : PySem.W.codeIn K cd20 "Stopped.counted" = true)
    (k20 : PySem.W.keepIn K (.ref f20) = true)
    (n20 : PySem.W.isFn K (.ref f20) = true)
    (a21 : PySem.W.findIn K (.ref C_Stopped) "cut" = some (some (.ref f21)))
    (l21 : K.lookup f21 = some ⟨oc21, od21, .func (PySem.W.fnOf "cut" "Stopped.cut" (defArgs s_Stopped_cut) (defBody s_Stopped_cut) (defScope s_Stopped_cut) .none kV21 doc21 pm21 an21 cd21 ct21), sl21⟩)
    (c21 : PySem.W.codeIn K cd21 "Stopped.cut" = true)
    (k21 : PySem.W.keepIn K (.ref f21) = true)
    (n21 : PySem.W.isFn K (.ref f21) = true)
    (a22 : PySem.W.nsIn K mainGlobals "stops_of" = some (some (.ref f22)))
    (l22 : K.lookup f22 = some ⟨oc22, od22, .func (PySem.W.fnOf "stops_of" "stops_of" (defArgs s_stops_of) (defBody s_stops_of) (defScope s_stops_of) .none kV22 doc22 pm22 an22 cd22 ct22), sl22⟩)
    (c22 : PySem.W.codeIn K cd22 "stops_of" = true)
    (k22 : PySem.W.keepIn K (.ref f22) = true)
    (a23 : PySem.W.findIn K (.ref C_Parted) "__init__" = some (some (.ref f23)))
    (l23 : K.lookup f23 = some ⟨oc23, od23, .func (PySem.W.fnOf "__init__" "Parted.__init__" (defArgs s_Parted_init) (defBody s_Parted_init) (defScope s_Parted_init) .none kV23 doc23 pm23 an23 cd23 ct23), sl23⟩)
    (c23 : PySem.W.codeIn K cd23 "Parted.__init__" = true)
    (k23 : PySem.W.keepIn K (.ref f23) = true)
    (n23 : PySem.W.isFn K (.ref f23) = true)
    (a24 : PySem.W.findIn K (.ref C_Parted) "fits" = some (some (.ref f24)))
    (l24 : K.lookup f24 = some ⟨oc24, od24, .func (PySem.W.fnOf "fits" "Parted.fits" (defArgs s_Parted_fits) (defBody s_Parted_fits) (defScope s_Parted_fits) .none kV24 doc24 pm24 an24 cd24 ct24), sl24⟩)
    (c24 : PySem.W.codeIn K cd24 "Parted.fits" = true)
    (k24 : PySem.W.keepIn K (.ref f24) = true)
    (n24 : PySem.W.isFn K (.ref f24) = true)
    (a25 : PySem.W.findIn K (.ref C_Parted) "counted" = some (some (.ref f25)))
    (l25 : K.lookup f25 = some ⟨oc25, od25, .func (PySem.W.fnOf "counted" "Parted.counted" (defArgs s_Parted_counted) (defBody s_Parted_counted) (defScope s_Parted_counted) .none kV25 doc25 pm25 an25 cd25 ct25), sl25⟩)
    (c25 : PySem.W.codeIn K cd25 "Parted.counted" = true)
    (k25 : PySem.W.keepIn K (.ref f25) = true)
    (n25 : PySem.W.isFn K (.ref f25) = true)
    (a26 : PySem.W.findIn K (.ref C_Parted) "cut" = some (some (.ref f26)))
    (l26 : K.lookup f26 = some ⟨oc26, od26, .func (PySem.W.fnOf "cut" "Parted.cut" (defArgs s_Parted_cut) (defBody s_Parted_cut) (defScope s_Parted_cut) .none kV26 doc26 pm26 an26 cd26 ct26), sl26⟩)
    (c26 : PySem.W.codeIn K cd26 "Parted.cut" = true)
    (k26 : PySem.W.keepIn K (.ref f26) = true)
    (n26 : PySem.W.isFn K (.ref f26) = true)
    (a27 : PySem.W.nsIn K mainGlobals "pieces" = some (some (.ref f27)))
    (l27 : K.lookup f27 = some ⟨oc27, od27, .func (PySem.W.fnOf "pieces" "pieces" (defArgs s_pieces) (defBody s_pieces) (defScope s_pieces) .none kV27 doc27 pm27 an27 cd27 ct27), sl27⟩)
    (c27 : PySem.W.codeIn K cd27 "pieces" = true)
    (k27 : PySem.W.keepIn K (.ref f27) = true)
    (a28 : PySem.W.nsIn K mainGlobals "scaled" = some (some (.ref f28)))
    (l28 : K.lookup f28 = some ⟨oc28, od28, .func (PySem.W.fnOf "scaled" "scaled" (defArgs s_scaled) (defBody s_scaled) (defScope s_scaled) .none kV28 doc28 pm28 an28 cd28 ct28), sl28⟩)
    (c28 : PySem.W.codeIn K cd28 "scaled" = true)
    (k28 : PySem.W.keepIn K (.ref f28) = true)
    (a29 : PySem.W.nsIn K mainGlobals "summed" = some (some (.ref f29)))
    (l29 : K.lookup f29 = some ⟨oc29, od29, .func (PySem.W.fnOf "summed" "summed" (defArgs s_summed) (defBody s_summed) (defScope s_summed) .none kV29 doc29 pm29 an29 cd29 ct29), sl29⟩)
    (c29 : PySem.W.codeIn K cd29 "summed" = true)
    (k29 : PySem.W.keepIn K (.ref f29) = true)
    (a30 : PySem.W.nsIn K mainGlobals "put_in" = some (some (.ref f30)))
    (l30 : K.lookup f30 = some ⟨oc30, od30, .func (PySem.W.fnOf "put_in" "put_in" (defArgs s_put_in) (defBody s_put_in) (defScope s_put_in) .none kV30 doc30 pm30 an30 cd30 ct30), sl30⟩)
    (c30 : PySem.W.codeIn K cd30 "put_in" = true)
    (k30 : PySem.W.keepIn K (.ref f30) = true)
    (a31 : PySem.W.nsIn K mainGlobals "steered" = some (some (.ref f31)))
    (l31 : K.lookup f31 = some ⟨oc31, od31, .func (PySem.W.fnOf "steered" "steered" (defArgs s_steered) (defBody s_steered) (defScope s_steered) .none kV31 doc31 pm31 an31 cd31 ct31), sl31⟩)
    (c31 : PySem.W.codeIn K cd31 "steered" = true)
    (k31 : PySem.W.keepIn K (.ref f31) = true)
    (a32 : PySem.W.nsIn K mainGlobals "misread" = some (some (.ref f32)))
    (l32 : K.lookup f32 = some ⟨oc32, od32, .func (PySem.W.fnOf "misread" "misread" (defArgs s_misread) (defBody s_misread) (defScope s_misread) .none kV32 doc32 pm32 an32 cd32 ct32), sl32⟩)
    (c32 : PySem.W.codeIn K cd32 "misread" = true)
    (k32 : PySem.W.keepIn K (.ref f32) = true)
    (a33 : PySem.W.nsIn K mainGlobals "rounded" = some (some (.ref f33)))
    (l33 : K.lookup f33 = some ⟨oc33, od33, .func (PySem.W.fnOf "rounded" "rounded" (defArgs s_rounded) (defBody s_rounded) (defScope s_rounded) .none kV33 doc33 pm33 an33 cd33 ct33), sl33⟩)
    (c33 : PySem.W.codeIn K cd33 "rounded" = true)
    (k33 : PySem.W.keepIn K (.ref f33) = true)
    (a34 : PySem.W.nsIn K mainGlobals "wider" = some (some (.ref f34)))
    (l34 : K.lookup f34 = some ⟨oc34, od34, .func (PySem.W.fnOf "wider" "wider" (defArgs s_wider) (defBody s_wider) (defScope s_wider) .none kV34 doc34 pm34 an34 cd34 ct34), sl34⟩)
    (c34 : PySem.W.codeIn K cd34 "wider" = true)
    (k34 : PySem.W.keepIn K (.ref f34) = true)
    (a35 : PySem.W.nsIn K mainGlobals "put_late" = some (some (.ref f35)))
    (l35 : K.lookup f35 = some ⟨oc35, od35, .func (PySem.W.fnOf "put_late" "put_late" (defArgs s_put_late) (defBody s_put_late) (defScope s_put_late) .none kV35 doc35 pm35 an35 cd35 ct35), sl35⟩)
    (c35 : PySem.W.codeIn K cd35 "put_late" = true)
    (k35 : PySem.W.keepIn K (.ref f35) = true)
    (a36 : PySem.W.nsIn K mainGlobals "late" = some (some (.ref f36)))
    (l36 : K.lookup f36 = some ⟨oc36, od36, .func (PySem.W.fnOf "late" "late" (defArgs s_late) (defBody s_late) (defScope s_late) .none kV36 doc36 pm36 an36 cd36 ct36), sl36⟩)
    (c36 : PySem.W.codeIn K cd36 "late" = true)
    (k36 : PySem.W.keepIn K (.ref f36) = true)
    (a37 : PySem.W.nsIn K mainGlobals "_law_cell_at" = some (some (.ref f37)))
    (l37 : K.lookup f37 = some ⟨oc37, od37, .func (PySem.W.fnOf "_law_cell_at" "_law_cell_at" (defArgs s__law_cell_at) (defBody s__law_cell_at) (defScope s__law_cell_at) .none kV37 doc37 pm37 an37 cd37 ct37), sl37⟩)
    (c37 : PySem.W.codeIn K cd37 "_law_cell_at" = true)
    (k37 : PySem.W.keepIn K (.ref f37) = true)
    (a38 : PySem.W.nsIn K mainGlobals "_law_stream" = some (some (.ref f38)))
    (l38 : K.lookup f38 = some ⟨oc38, od38, .func (PySem.W.fnOf "_law_stream" "_law_stream" (defArgs s__law_stream) (defBody s__law_stream) (defScope s__law_stream) .none kV38 doc38 pm38 an38 cd38 ct38), sl38⟩)
    (c38 : PySem.W.codeIn K cd38 "_law_stream" = true)
    (k38 : PySem.W.keepIn K (.ref f38) = true)
    (a39 : PySem.W.nsIn K mainGlobals "_law_number" = some (some (.ref f39)))
    (l39 : K.lookup f39 = some ⟨oc39, od39, .func (PySem.W.fnOf "_law_number" "_law_number" (defArgs s__law_number) (defBody s__law_number) (defScope s__law_number) .none kV39 doc39 pm39 an39 cd39 ct39), sl39⟩)
    (c39 : PySem.W.codeIn K cd39 "_law_number" = true)
    (k39 : PySem.W.keepIn K (.ref f39) = true)
    (a40 : PySem.W.nsIn K mainGlobals "_law_parts" = some (some (.ref f40)))
    (l40 : K.lookup f40 = some ⟨oc40, od40, .func (PySem.W.fnOf "_law_parts" "_law_parts" (defArgs s__law_parts) (defBody s__law_parts) (defScope s__law_parts) .none kV40 doc40 pm40 an40 cd40 ct40), sl40⟩)
    (c40 : PySem.W.codeIn K cd40 "_law_parts" = true)
    (k40 : PySem.W.keepIn K (.ref f40) = true)
    (a41 : PySem.W.nsIn K mainGlobals "_law_straight" = some (some (.ref f41)))
    (l41 : K.lookup f41 = some ⟨oc41, od41, .func (PySem.W.fnOf "_law_straight" "_law_straight" (defArgs s__law_straight) (defBody s__law_straight) (defScope s__law_straight) .none kV41 doc41 pm41 an41 cd41 ct41), sl41⟩)
    (c41 : PySem.W.codeIn K cd41 "_law_straight" = true)
    (k41 : PySem.W.keepIn K (.ref f41) = true)
    (a42 : PySem.W.nsIn K mainGlobals "_law_rule" = some (some (.ref f42)))
    (l42 : K.lookup f42 = some ⟨oc42, od42, .func (PySem.W.fnOf "_law_rule" "_law_rule" (defArgs s__law_rule) (defBody s__law_rule) (defScope s__law_rule) .none kV42 doc42 pm42 an42 cd42 ct42), sl42⟩)
    (c42 : PySem.W.codeIn K cd42 "_law_rule" = true)
    (k42 : PySem.W.keepIn K (.ref f42) = true)
    (a43 : PySem.W.nsIn K mainGlobals "_law_scaled" = some (some (.ref f43)))
    (l43 : K.lookup f43 = some ⟨oc43, od43, .func (PySem.W.fnOf "_law_scaled" "_law_scaled" (defArgs s__law_scaled) (defBody s__law_scaled) (defScope s__law_scaled) .none kV43 doc43 pm43 an43 cd43 ct43), sl43⟩)
    (c43 : PySem.W.codeIn K cd43 "_law_scaled" = true)
    (k43 : PySem.W.keepIn K (.ref f43) = true)
    (a44 : PySem.W.nsIn K mainGlobals "_law_put" = some (some (.ref f44)))
    (l44 : K.lookup f44 = some ⟨oc44, od44, .func (PySem.W.fnOf "_law_put" "_law_put" (defArgs s__law_put) (defBody s__law_put) (defScope s__law_put) .none kV44 doc44 pm44 an44 cd44 ct44), sl44⟩)
    (c44 : PySem.W.codeIn K cd44 "_law_put" = true)
    (k44 : PySem.W.keepIn K (.ref f44) = true)
    (a45 : PySem.W.nsIn K mainGlobals "_law_put_late" = some (some (.ref f45)))
    (l45 : K.lookup f45 = some ⟨oc45, od45, .func (PySem.W.fnOf "_law_put_late" "_law_put_late" (defArgs s__law_put_late) (defBody s__law_put_late) (defScope s__law_put_late) .none kV45 doc45 pm45 an45 cd45 ct45), sl45⟩)
    (c45 : PySem.W.codeIn K cd45 "_law_put_late" = true)
    (k45 : PySem.W.keepIn K (.ref f45) = true)
    (a46 : PySem.W.nsIn K mainGlobals "_law_told" = some (some (.ref f46)))
    (l46 : K.lookup f46 = some ⟨oc46, od46, .func (PySem.W.fnOf "_law_told" "_law_told" (defArgs s__law_told) (defBody s__law_told) (defScope s__law_told) .none kV46 doc46 pm46 an46 cd46 ct46), sl46⟩)
    (c46 : PySem.W.codeIn K cd46 "_law_told" = true)
    (k46 : PySem.W.keepIn K (.ref f46) = true)
    (a47 : PySem.W.nsIn K mainGlobals "_law_right" = some (some (.ref f47)))
    (l47 : K.lookup f47 = some ⟨oc47, od47, .func (PySem.W.fnOf "_law_right" "_law_right" (defArgs s__law_right) (defBody s__law_right) (defScope s__law_right) .none kV47 doc47 pm47 an47 cd47 ct47), sl47⟩)
    (c47 : PySem.W.codeIn K cd47 "_law_right" = true)
    (k47 : PySem.W.keepIn K (.ref f47) = true)
    (a48 : PySem.W.nsIn K mainGlobals "law" = some (some (.ref f48)))
    (l48 : K.lookup f48 = some ⟨oc48, od48, .func (PySem.W.fnOf "law" "law" (defArgs s_law) (defBody s_law) (defScope s_law) .none kV48 doc48 pm48 an48 cd48 ct48), sl48⟩)
    (c48 : PySem.W.codeIn K cd48 "law" = true)
    (k48 : PySem.W.keepIn K (.ref f48) = true)
    (z0 : PySem.W.nsIn K mainGlobals "all" = some none)
    (z1 : PySem.W.nsIn K mainGlobals "bool" = some none)
    (z2 : PySem.W.nsIn K mainGlobals "int" = some none)
    (z3 : PySem.W.nsIn K mainGlobals "isinstance" = some none)
    (z4 : PySem.W.nsIn K mainGlobals "len" = some none)
    (z5 : PySem.W.nsIn K mainGlobals "list" = some none)
    (z6 : PySem.W.nsIn K mainGlobals "range" = some none)
    (z7 : PySem.W.nsIn K mainGlobals "tuple" = some none)
    (z8 : PySem.W.nsIn K mainGlobals "zip" = some none)
    (g_MOST_MODES : PySem.W.nsIn K mainGlobals "MOST_MODES" = some (some (.int 40 tg_MOST_MODES)))
    (g_MOST_NUMBERS : PySem.W.nsIn K mainGlobals "MOST_NUMBERS" = some (some (.int 3 tg_MOST_NUMBERS)))
    (g_MOST_PIECES : PySem.W.nsIn K mainGlobals "MOST_PIECES" = some (some (.int 60 tg_MOST_PIECES)))
    (g_MOST_PUSHES : PySem.W.nsIn K mainGlobals "MOST_PUSHES" = some (some (.int 6 tg_MOST_PUSHES)))
    (q0 : PySem.W.plainGet K C_Parted Str.empty = true)
    (q1 : PySem.W.hasDictIn K C_Parted = true)
    (q2 : PySem.W.plainOver K C_Parted = true)
    (q3 : PySem.W.findIn K (.ref C_Parted) "__setattr__" = some (some (.builtin "object.__setattr__")))
    (q4 : PySem.W.plainGet K C_Stopped Str.empty = true)
    (q5 : PySem.W.hasDictIn K C_Stopped = true)
    (q6 : PySem.W.plainOver K C_Stopped = true)
    (q7 : PySem.W.findIn K (.ref C_Stopped) "__setattr__" = some (some (.builtin "object.__setattr__")))
    (q8 : PySem.W.plainGet K C_Straight Str.empty = true)
    (q9 : PySem.W.hasDictIn K C_Straight = true)
    (q10 : PySem.W.plainOver K C_Straight = true)
    (q11 : PySem.W.findIn K (.ref C_Straight) "__setattr__" = some (some (.builtin "object.__setattr__")))
    (q12 : PySem.W.plainGet K C_Thing Str.empty = true)
    (q13 : PySem.W.hasDictIn K C_Thing = true)
    (q14 : PySem.W.plainOver K C_Thing = true)
    (q15 : PySem.W.findIn K (.ref C_Thing) "__setattr__" = some (some (.builtin "object.__setattr__")))
    (q16 : PySem.W.findIn K (.ref C_Straight) "counted" = some (some (.ref f14)))
    (q17 : PySem.W.excIn K C_BadThing [.type "ValueError", .type "Exception", .type "BaseException", .type "object"] "ValueError.__new__" = true)
    (q18 : PySem.W.keepIn K (.ref C_BadThing) = true)
    (q19 : PySem.W.subIn K (.ref C_BadThing) (.type "BaseException") = some true)
    (q20 : PySem.W.typeIn K (.ref C_BadThing) = some (.type "type"))
    (q21 : PySem.W.excIn K C_TooMany [.type "ValueError", .type "Exception", .type "BaseException", .type "object"] "ValueError.__new__" = true)
    (q22 : PySem.W.keepIn K (.ref C_TooMany) = true)
    (q23 : PySem.W.subIn K (.ref C_TooMany) (.type "BaseException") = some true)
    (q24 : PySem.W.typeIn K (.ref C_TooMany) = some (.type "type"))
    (q25 : PySem.W.plainGet K C_Mode Str.empty = true)
    (q26 : PySem.W.hasDictIn K C_Mode = true)
    (q27 : PySem.W.plainOver K C_Mode = true)
    (q28 : PySem.W.findIn K (.ref C_Mode) "__setattr__" = some (some (.builtin "object.__setattr__")))
    (q29 : PySem.W.findIn K (.ref C_Mode) "rows" = some none)
    (q30 : PySem.W.findIn K (.ref C_Mode) "nexts" = some none)
    (q31 : PySem.W.findIn K (.ref C_Mode) "steer" = some none)
    (q32 : PySem.W.findIn K (.ref C_Mode) "push" = some none)
    (q33 : PySem.W.findIn K (.ref C_Mode) "add" = some none)
    (q34 : PySem.W.findIn K (.ref C_Mode) "divisor" = some none)
    (q35 : PySem.W.findIn K (.ref C_Thing) "many" = some none)
    (q36 : PySem.W.findIn K (.ref C_Thing) "bounds" = some none)
    (q37 : PySem.W.findIn K (.ref C_Thing) "ways" = some none)
    (q38 : PySem.W.findIn K (.ref C_Mode) "__class__" = some (some (.builtin "object.__class__")))
    (q39 : PySem.W.specialIn K (.builtin "object.__class__") "__get__" = some (some (.builtin "getset_descriptor.__get__")))
    (q40 : PySem.W.takesIn K (.builtin "object.__class__") = some true)
    (q41 : PySem.W.mroIn K C_Mode (.type "object") = some true)
    (q42 : PySem.W.findIn K (.ref C_Thing) "__class__" = some (some (.builtin "object.__class__")))
    (q43 : PySem.W.mroIn K C_Thing (.type "object") = some true)
    (q44 : PySem.W.isClsIn K C_Mode = true)
    (q45 : PySem.W.typeIn K (.ref C_Mode) = some (.type "type"))
    (q46 : PySem.W.subIn K (.ref C_Mode) (.ref C_Mode) = some true)
    (q47 : PySem.W.subIn K (.type "int") (.ref C_Mode) = some false)
    (q48 : ((((.type "int") : Value) == (.ref C_Mode : Value)) : Bool) = false)
    (q49 : PySem.W.subIn K (.type "bool") (.ref C_Mode) = some false)
    (q50 : ((((.type "bool") : Value) == (.ref C_Mode : Value)) : Bool) = false)
    (q51 : PySem.W.subIn K (.type "NoneType") (.ref C_Mode) = some false)
    (q52 : ((((.type "NoneType") : Value) == (.ref C_Mode : Value)) : Bool) = false)
    (q53 : PySem.W.subIn K (.type "str") (.ref C_Mode) = some false)
    (q54 : ((((.type "str") : Value) == (.ref C_Mode : Value)) : Bool) = false)
    (q55 : PySem.W.subIn K (.type "tuple") (.ref C_Mode) = some false)
    (q56 : ((((.type "tuple") : Value) == (.ref C_Mode : Value)) : Bool) = false)
    (q57 : PySem.W.subIn K (.type "list") (.ref C_Mode) = some false)
    (q58 : ((((.type "list") : Value) == (.ref C_Mode : Value)) : Bool) = false)
    (q59 : PySem.W.subIn K (.type "dict") (.ref C_Mode) = some false)
    (q60 : ((((.type "dict") : Value) == (.ref C_Mode : Value)) : Bool) = false)
    (q61 : PySem.W.findIn K (.ref C_Straight) "numbers" = some none)
    (q62 : PySem.W.findIn K (.ref C_Straight) "add" = some none)
    (q63 : PySem.W.findIn K (.ref C_Straight) "divisor" = some none)
    (q64 : PySem.W.findIn K (.ref C_Stopped) "rule" = some none)
    (q65 : PySem.W.findIn K (.ref C_Stopped) "low" = some none)
    (q66 : PySem.W.findIn K (.ref C_Stopped) "high" = some none)
    (q67 : PySem.W.findIn K (.ref C_Parted) "row" = some none)
    (q68 : PySem.W.findIn K (.ref C_Parted) "rule" = some none)
    (q69 : PySem.W.findIn K (.ref C_Parted) "other" = some none)
    (q70 : PySem.W.findIn K (.ref C_Straight) "__class__" = some (some (.builtin "object.__class__")))
    (q71 : PySem.W.mroIn K C_Straight (.type "object") = some true)
    (q72 : PySem.W.findIn K (.ref C_Stopped) "__class__" = some (some (.builtin "object.__class__")))
    (q73 : PySem.W.mroIn K C_Stopped (.type "object") = some true)
    (q74 : PySem.W.findIn K (.ref C_Parted) "__class__" = some (some (.builtin "object.__class__")))
    (q75 : PySem.W.mroIn K C_Parted (.type "object") = some true)
    (q76 : PySem.W.isClsIn K C_Rule = true)
    (q77 : PySem.W.typeIn K (.ref C_Rule) = some (.type "type"))
    (q78 : PySem.W.subIn K (.ref C_Straight) (.ref C_Rule) = some true)
    (q79 : PySem.W.subIn K (.ref C_Stopped) (.ref C_Rule) = some true)
    (q80 : PySem.W.subIn K (.ref C_Parted) (.ref C_Rule) = some true)
    (q81 : PySem.W.isClsIn K C_Straight = true)
    (q82 : PySem.W.typeIn K (.ref C_Straight) = some (.type "type"))
    (q83 : PySem.W.subIn K (.ref C_Straight) (.ref C_Straight) = some true)
    (q84 : PySem.W.isClsIn K C_Thing = true)
    (q85 : PySem.W.typeIn K (.ref C_Thing) = some (.type "type"))
    (q86 : PySem.W.subIn K (.ref C_Thing) (.ref C_Thing) = some true)
    (q87 : PySem.W.makesIn K C_Mode = true)
    (q88 : PySem.W.keepIn K (.ref C_Mode) = true)
    (q89 : PySem.W.makesIn K C_Parted = true)
    (q90 : PySem.W.keepIn K (.ref C_Parted) = true)
    (q91 : PySem.W.makesIn K C_Stopped = true)
    (q92 : PySem.W.keepIn K (.ref C_Stopped) = true)
    (q93 : PySem.W.makesIn K C_Straight = true)
    (q94 : PySem.W.keepIn K (.ref C_Straight) = true)
    (q95 : PySem.W.makesIn K C_Thing = true)
    (q96 : PySem.W.keepIn K (.ref C_Thing) = true) :
    ∃ fd : FuncData, (∀ (s : Shared) (u : Value), BindsTo s fd ⟨[u], []⟩ [("_law_script", u)]) ∧
      ∀ base : Heap, K.In base → base.Ns mainGlobals mg → FnOk l.prog w K mg base (L2.CX l.prog w) 15 fa fd ["_law_script"] (spD K 1 (gLaw 63)) := by
  have e := hfa.symm.trans (PySem.W.mg_of X G a48)
  cases e
  have T : Txt K mg f0 f1 f2 f3 f4 f5 f6 f7 f8 f9 f10 f11 f12 f13 f14 f15 f16 f17 f18 f19 f20 f21 f22 f23 f24 f25 f26 f27 f28 f29 f30 f31 f32 f33 f34 f35 f36 f37 f38 f39 f40 f41 f42 f43 f44 f45 f46 f47 _ C_BadThing C_TooMany C_Mode C_Thing C_Rule C_Straight C_Stopped C_Parted := ⟨PySem.W.mg_none_of X G z0, PySem.W.mg_none_of X G z1, PySem.W.mg_none_of X G z2, PySem.W.mg_none_of X G z3, PySem.W.mg_none_of X G z4, PySem.W.mg_none_of X G z5, PySem.W.mg_none_of X G z6, PySem.W.mg_none_of X G z7, PySem.W.mg_none_of X G z8, PySem.W.mg_of X G a0, PySem.W.mg_of X G a1, PySem.W.mg_of X G a2, PySem.W.mg_of X G a3, PySem.W.mg_of X G a4, PySem.W.mg_of X G a5, PySem.W.mg_of X G a6, PySem.W.mg_of X G a8, PySem.W.mg_of X G a9, PySem.W.mg_of X G a22, PySem.W.mg_of X G a27, PySem.W.mg_of X G a28, PySem.W.mg_of X G a29, PySem.W.mg_of X G a30, PySem.W.mg_of X G a31, PySem.W.mg_of X G a32, PySem.W.mg_of X G a33, PySem.W.mg_of X G a34, PySem.W.mg_of X G a35, PySem.W.mg_of X G a36, PySem.W.mg_of X G a37, PySem.W.mg_of X G a38, PySem.W.mg_of X G a39, PySem.W.mg_of X G a40, PySem.W.mg_of X G a41, PySem.W.mg_of X G a42, PySem.W.mg_of X G a43, PySem.W.mg_of X G a44, PySem.W.mg_of X G a45, PySem.W.mg_of X G a46, PySem.W.mg_of X G a47, PySem.W.mg_of X G a48, ⟨_, PySem.W.mg_of X G g_MOST_MODES⟩, ⟨_, PySem.W.mg_of X G g_MOST_NUMBERS⟩, ⟨_, PySem.W.mg_of X G g_MOST_PIECES⟩, ⟨_, PySem.W.mg_of X G g_MOST_PUSHES⟩, PySem.W.mg_of X G aC_BadThing, PySem.W.mg_of X G aC_Mode, PySem.W.mg_of X G aC_Parted, PySem.W.mg_of X G aC_Rule, PySem.W.mg_of X G aC_Stopped, PySem.W.mg_of X G aC_Straight, PySem.W.mg_of X G aC_Thing, PySem.W.mg_of X G aC_TooMany, ⟨q0, q1, q2, q3⟩, ⟨q4, q5, q6, q7⟩, ⟨q8, q9, q10, q11⟩, ⟨q12, q13, q14, q15⟩, ⟨a25, n25, k25⟩, ⟨a26, n26, k26⟩, ⟨a24, n24, k24⟩, ⟨a20, n20, k20⟩, ⟨a21, n21, k21⟩, ⟨a19, n19, k19⟩, ⟨q16, n14, k14⟩, ⟨a17, n17, k17⟩, ⟨a16, n16, k16⟩, ⟨a13, n13, k13⟩, ⟨a12, n12, k12⟩, ⟨a11, n11, k11⟩, ⟨q17, PySem.W.mg_of X G aC_BadThing, q18, q19, q20⟩, ⟨q21, PySem.W.mg_of X G aC_TooMany, q22, q23, q24⟩, ⟨⟨⟨q25, q26, q27, q28⟩, q29⟩, ⟨⟨q25, q26, q27, q28⟩, q30⟩, ⟨⟨q25, q26, q27, q28⟩, q31⟩, ⟨⟨q25, q26, q27, q28⟩, q32⟩, ⟨⟨q25, q26, q27, q28⟩, q33⟩, ⟨⟨q25, q26, q27, q28⟩, q34⟩, ⟨⟨q12, q13, q14, q15⟩, q35⟩, ⟨⟨q12, q13, q14, q15⟩, q36⟩, ⟨⟨q12, q13, q14, q15⟩, q37⟩, ⟨⟨q25, q26, q27, q28⟩, q38, q39, q40, q41⟩, ⟨⟨q12, q13, q14, q15⟩, q42, q39, q40, q43⟩, kit_of q44 q45 q46 (fun _ => rfl), kit_of q44 q45 q47 (fun z => absurd (z.symm.trans q48) (fun y => nomatch y)), kit_of q44 q45 q49 (fun z => absurd (z.symm.trans q50) (fun y => nomatch y)), kit_of q44 q45 q51 (fun z => absurd (z.symm.trans q52) (fun y => nomatch y)), kit_of q44 q45 q53 (fun z => absurd (z.symm.trans q54) (fun y => nomatch y)), kit_of q44 q45 q55 (fun z => absurd (z.symm.trans q56) (fun y => nomatch y)), kit_of q44 q45 q57 (fun z => absurd (z.symm.trans q58) (fun y => nomatch y)), kit_of q44 q45 q59 (fun z => absurd (z.symm.trans q60) (fun y => nomatch y))⟩, ⟨⟨⟨q8, q9, q10, q11⟩, q61⟩, ⟨⟨q8, q9, q10, q11⟩, q62⟩, ⟨⟨q8, q9, q10, q11⟩, q63⟩, ⟨⟨q4, q5, q6, q7⟩, q64⟩, ⟨⟨q4, q5, q6, q7⟩, q65⟩, ⟨⟨q4, q5, q6, q7⟩, q66⟩, ⟨⟨q0, q1, q2, q3⟩, q67⟩, ⟨⟨q0, q1, q2, q3⟩, q68⟩, ⟨⟨q0, q1, q2, q3⟩, q69⟩, ⟨⟨q8, q9, q10, q11⟩, q70, q39, q40, q71⟩, ⟨⟨q4, q5, q6, q7⟩, q72, q39, q40, q73⟩, ⟨⟨q0, q1, q2, q3⟩, q74, q39, q40, q75⟩, kit_of q76 q77 q78 (fun _ => rfl), kit_of q76 q77 q79 (fun _ => rfl), kit_of q76 q77 q80 (fun _ => rfl)⟩, ⟨kit_of q81 q82 q83 (fun _ => rfl)⟩, ⟨kit_of q84 q85 q86 (fun _ => rfl)⟩⟩
  refine ⟨PySem.W.fnOf "law" "law" (defArgs s_law) (defBody s_law) (defScope s_law) .none kV48 doc48 pm48 an48 cd48 ct48, fun s v => .of_eq rfl, fun base _ _ => ?_⟩
  have grp_counted := grp3_ok (P := l.prog) (w := w) (K := K) (mg := mg) (base := base) (c := 0) (f1 := f14) (p1 := ["self"]) (n1 := 1) (G1 := (G_Rule_counted C_Straight C_Stopped C_Parted)) (f2 := f20) (p2 := ["self"]) (n2 := 1) (G2 := (G_Stopped_counted C_Straight C_Stopped C_Parted)) (f3 := f25) (p3 := ["self"]) (n3 := 1) (G3 := (G_Parted_counted C_Straight C_Stopped C_Parted)) rfl rfl rfl (fun j kk hk F1 F2 F3 => ⟨def_okA l14 c14 sc_Rule_counted rfl (fun cdv A outer s H E hr => der_Rule_counted T hk hr) (rd_Rule_counted T.kf_RuK j), def_okA l20 c20 sc_Stopped_counted rfl (fun cdv A outer s H E hr => der_Stopped_counted T hk ⟨⟨_, _, F1, .all (al1 fun _ => rfl)⟩, k14⟩ ⟨⟨_, _, F2, .all (al1 fun _ => rfl)⟩, k20⟩ ⟨⟨_, _, F3, .all (al1 fun _ => rfl)⟩, k25⟩ hr) (rd_Stopped_counted T.kf_RuK j), def_okA l25 c25 sc_Parted_counted rfl (fun cdv A outer s H E hr => der_Parted_counted T hk ⟨⟨_, _, F1, .all (al1 fun _ => rfl)⟩, k14⟩ ⟨⟨_, _, F2, .all (al1 fun _ => rfl)⟩, k20⟩ ⟨⟨_, _, F3, .all (al1 fun _ => rfl)⟩, k25⟩ hr) (rd_Parted_counted T.kf_RuK j)⟩)
  have M_Rule_counted : FN l.prog w K mg base 8 f14 1 (G_Rule_counted C_Straight C_Stopped C_Parted 8) := ⟨⟨_, _, (grp_counted 8).1, .all (al1 fun _ => rfl)⟩, k14⟩
  have M_Stopped_counted : FN l.prog w K mg base 8 f20 1 (G_Stopped_counted C_Straight C_Stopped C_Parted 8) := ⟨⟨_, _, (grp_counted 8).2.1, .all (al1 fun _ => rfl)⟩, k20⟩
  have M_Parted_counted : FN l.prog w K mg base 8 f25 1 (G_Parted_counted C_Straight C_Stopped C_Parted 8) := ⟨⟨_, _, (grp_counted 8).2.2, .all (al1 fun _ => rfl)⟩, k25⟩
  have D_own_list : FD l.prog w K mg base 1 f2 1 [] g_own_list := ⟨⟨_, _, [], [], def_okA l2 c2 sc_own_list rfl (fun cdv A outer s H E hr => der_own_list T hr) rd_own_list, .all (al1 fun _ => rfl), .nil, fun _ => .nil⟩, k2⟩
  have F_Straight : FunD K "__init__" "Straight.__init__" (defArgs s_Straight_init) (defBody s_Straight_init) (defScope s_Straight_init) [.int 1] [] f15 _ := ⟨⟨_, _, _, _, _, _, _, _, _, _, rfl, l15, c15, .inr ⟨by simp, dT15, _, [.int 1 tk15_0], tn15, rfl, t15, rfl, .cons ⟨_, rfl⟩ .nil⟩, .inl rfl⟩, k15⟩
  have I_Straight : FI l.prog w K mg base 2 C_Straight 4 [] g_Straight_init := by
    obtain ⟨ds, v, b⟩ := F_Straight.binds1 (ps := ["self", "numbers", "add", "divisor"]) 4 1 (by simp) rfl (fun T kV doc pm an cdv ct us its h1 h2 => match us, its, h1, h2 with | [_, _, _, _], [_], _, _ => ⟨_, rfl, rfl⟩)
    exact ⟨⟨f15, _, _, _, ds, def_okI (C := C_Straight) l15 c15 sc_Straight_init rfl (fun cdv A outer s H E hr => der_Straight_init T D_own_list hr) (rd_Straight_init T.kf_RuK), b, v, fun _ => .nil, ⟨q93, a15, n15, q94⟩⟩⟩
  have F_Straight_d : FunD K "__init__" "Straight.__init__" (defArgs s_Straight_init) (defBody s_Straight_init) (defScope s_Straight_init) [.int 1] [] f15 _ := ⟨⟨_, _, _, _, _, _, _, _, _, _, rfl, l15, c15, .inr ⟨by simp, dT15, _, [.int 1 tk15_0], tn15, rfl, t15, rfl, .cons ⟨_, rfl⟩ .nil⟩, .inl rfl⟩, k15⟩
  have I_Straight_d : FI l.prog w K mg base 2 C_Straight 4 [.int 1] g_Straight_init := by
    obtain ⟨ds, v, b⟩ := F_Straight_d.binds1 (ps := ["self", "numbers", "add", "divisor"]) 3 0 (by simp) rfl (fun T kV doc pm an cdv ct us its h1 h2 => match us, its, h1, h2 with | [_, _, _], [_], _, _ => ⟨_, rfl, rfl⟩)
    exact ⟨⟨f15, _, _, _, ds, def_okI (C := C_Straight) l15 c15 sc_Straight_init rfl (fun cdv A outer s H E hr => der_Straight_init T D_own_list hr) (rd_Straight_init T.kf_RuK), b, v, fun _ => .cons (.int _) .nil, ⟨q93, a15, n15, q94⟩⟩⟩
  have D_stops_of : FD l.prog w K mg base 4 f22 3 [] (g_stops_of C_Straight) := ⟨⟨_, _, [], [], def_okA l22 c22 sc_stops_of rfl (fun cdv A outer s H E hr => der_stops_of T I_Straight_d hr) (rd_stops_of T.kf_RuK), .all (al3 fun _ _ _ => rfl), .nil, fun _ => .nil⟩, k22⟩
  have grp_cut := grp3_ok (P := l.prog) (w := w) (K := K) (mg := mg) (base := base) (c := 4) (f1 := f17) (p1 := ["self", "many"]) (n1 := 2) (G1 := (G_Straight_cut C_Straight C_Stopped C_Parted)) (f2 := f21) (p2 := ["self", "many"]) (n2 := 2) (G2 := (G_Stopped_cut C_Straight C_Stopped C_Parted)) (f3 := f26) (p3 := ["self", "many"]) (n3 := 2) (G3 := (G_Parted_cut C_Straight C_Stopped C_Parted)) rfl rfl rfl (fun j kk hk F1 F2 F3 => ⟨def_okA l17 c17 sc_Straight_cut rfl (fun cdv A outer s H E hr => der_Straight_cut T hk I_Straight hr) (rd_Straight_cut T.kf_RuK j), def_okA l21 c21 sc_Stopped_cut rfl (fun cdv A outer s H E hr => der_Stopped_cut T hk ⟨⟨_, _, F1, .all (al2 fun _ _ => rfl)⟩, k17⟩ ⟨⟨_, _, F2, .all (al2 fun _ _ => rfl)⟩, k21⟩ ⟨⟨_, _, F3, .all (al2 fun _ _ => rfl)⟩, k26⟩ D_stops_of hr) (rd_Stopped_cut T.kf_RuK j), def_okA l26 c26 sc_Parted_cut rfl (fun cdv A outer s H E hr => der_Parted_cut T hk ⟨⟨_, _, F1, .all (al2 fun _ _ => rfl)⟩, k17⟩ ⟨⟨_, _, F2, .all (al2 fun _ _ => rfl)⟩, k21⟩ ⟨⟨_, _, F3, .all (al2 fun _ _ => rfl)⟩, k26⟩ hr) (rd_Parted_cut T.kf_RuK j)⟩)
  have M_Straight_cut : FN l.prog w K mg base 12 f17 2 (G_Straight_cut C_Straight C_Stopped C_Parted 8) := ⟨⟨_, _, (grp_cut 8).1, .all (al2 fun _ _ => rfl)⟩, k17⟩
  have M_Stopped_cut : FN l.prog w K mg base 12 f21 2 (G_Stopped_cut C_Straight C_Stopped C_Parted 8) := ⟨⟨_, _, (grp_cut 8).2.1, .all (al2 fun _ _ => rfl)⟩, k21⟩
  have M_Parted_cut : FN l.prog w K mg base 12 f26 2 (G_Parted_cut C_Straight C_Stopped C_Parted 8) := ⟨⟨_, _, (grp_cut 8).2.2, .all (al2 fun _ _ => rfl)⟩, k26⟩
  have D_is_whole : FD l.prog w K mg base 1 f0 1 [] g_is_whole := ⟨⟨_, _, [], [], def_okA l0 c0 sc_is_whole rfl (fun cdv A outer s H E hr => der_is_whole T hr) rd_is_whole, .all (al1 fun _ => rfl), .nil, fun _ => .nil⟩, k0⟩
  have D_are_wholes : FD l.prog w K mg base 2 f3 2 [] g_are_wholes := ⟨⟨_, _, [], [], def_okA l3 c3 sc_are_wholes rfl (fun cdv A outer s H E hr => der_are_wholes T D_is_whole hr) rd_are_wholes, .all (al2 fun _ _ => rfl), .nil, fun _ => .nil⟩, k3⟩
  have D_is_row : FD l.prog w K mg base 2 f4 2 [] g_is_row := ⟨⟨_, _, [], [], def_okA l4 c4 sc_is_row rfl (fun cdv A outer s H E hr => der_is_row T D_is_whole hr) rd_is_row, .all (al2 fun _ _ => rfl), .nil, fun _ => .nil⟩, k4⟩
  have grp_fits := grp3_ok (P := l.prog) (w := w) (K := K) (mg := mg) (base := base) (c := 2) (f1 := f16) (p1 := ["self", "many"]) (n1 := 2) (G1 := (G_Straight_fits C_Straight C_Stopped C_Parted)) (f2 := f19) (p2 := ["self", "many"]) (n2 := 2) (G2 := (G_Stopped_fits C_Straight C_Stopped C_Parted)) (f3 := f24) (p3 := ["self", "many"]) (n3 := 2) (G3 := (G_Parted_fits C_Straight C_Stopped C_Parted)) rfl rfl rfl (fun j kk hk F1 F2 F3 => ⟨def_okA l16 c16 sc_Straight_fits rfl (fun cdv A outer s H E hr => der_Straight_fits T hk D_is_whole D_are_wholes hr) (rd_Straight_fits T.kf_RuK j), def_okA l19 c19 sc_Stopped_fits rfl (fun cdv A outer s H E hr => der_Stopped_fits T hk ⟨⟨_, _, F1, .all (al2 fun _ _ => rfl)⟩, k16⟩ ⟨⟨_, _, F2, .all (al2 fun _ _ => rfl)⟩, k19⟩ ⟨⟨_, _, F3, .all (al2 fun _ _ => rfl)⟩, k24⟩ D_is_whole hr) (rd_Stopped_fits T.kf_RuK j), def_okA l24 c24 sc_Parted_fits rfl (fun cdv A outer s H E hr => der_Parted_fits T hk ⟨⟨_, _, F1, .all (al2 fun _ _ => rfl)⟩, k16⟩ ⟨⟨_, _, F2, .all (al2 fun _ _ => rfl)⟩, k19⟩ ⟨⟨_, _, F3, .all (al2 fun _ _ => rfl)⟩, k24⟩ D_is_row hr) (rd_Parted_fits T.kf_RuK j)⟩)
  have M_Straight_fits : FN l.prog w K mg base 10 f16 2 (G_Straight_fits C_Straight C_Stopped C_Parted 8) := ⟨⟨_, _, (grp_fits 8).1, .all (al2 fun _ _ => rfl)⟩, k16⟩
  have M_Stopped_fits : FN l.prog w K mg base 10 f19 2 (G_Stopped_fits C_Straight C_Stopped C_Parted 8) := ⟨⟨_, _, (grp_fits 8).2.1, .all (al2 fun _ _ => rfl)⟩, k19⟩
  have M_Parted_fits : FN l.prog w K mg base 10 f24 2 (G_Parted_fits C_Straight C_Stopped C_Parted 8) := ⟨⟨_, _, (grp_fits 8).2.2, .all (al2 fun _ _ => rfl)⟩, k24⟩
  have D_pieces : FD l.prog w K mg base 13 f27 2 [] (g_pieces C_Straight C_Stopped C_Parted) := ⟨⟨_, _, [], [], def_okA l27 c27 sc_pieces rfl (fun cdv A outer s H E hr => der_pieces T M_Parted_counted M_Parted_cut M_Parted_fits M_Rule_counted M_Stopped_counted M_Stopped_cut M_Stopped_fits M_Straight_cut M_Straight_fits hr) (rd_pieces T.kf_RuK), .all (al2 fun _ _ => rfl), .nil, fun _ => .nil⟩, k27⟩
  have D_scaled : FD l.prog w K mg base 1 f28 2 [] g_scaled := ⟨⟨_, _, [], [], def_okA l28 c28 sc_scaled rfl (fun cdv A outer s H E hr => der_scaled T hr) rd_scaled, .all (al2 fun _ _ => rfl), .nil, fun _ => .nil⟩, k28⟩
  have D_summed : FD l.prog w K mg base 1 f29 2 [] g_summed := ⟨⟨_, _, [], [], def_okA l29 c29 sc_summed rfl (fun cdv A outer s H E hr => der_summed T hr) rd_summed, .all (al2 fun _ _ => rfl), .nil, fun _ => .nil⟩, k29⟩
  have D_own : FD l.prog w K mg base 2 f1 1 [] g_own := ⟨⟨_, _, [], [], def_okA l1 c1 sc_own rfl (fun cdv A outer s H E hr => der_own T D_own_list hr) rd_own, .all (al1 fun _ => rfl), .nil, fun _ => .nil⟩, k1⟩
  have I_Mode : FI l.prog w K mg base 3 C_Mode 7 [] g_Mode_init := ⟨⟨f7, _, _, [], [], def_okI (C := C_Mode) l7 c7 sc_Mode_init rfl (fun cdv A outer s H E hr => der_Mode_init T D_own hr) (rd_Mode_init T.kf_ThK), .all (al7 fun _ _ _ _ _ _ _ => rfl), .nil, fun _ => .nil, ⟨q87, a7, n7, q88⟩⟩⟩
  have D_put_in : FD l.prog w K mg base 5 f30 3 [] (g_put_in C_Straight C_Mode) := ⟨⟨_, _, [], [], def_okA l30 c30 sc_put_in rfl (fun cdv A outer s H E hr => der_put_in T D_scaled D_summed I_Mode hr) (rd_put_in T.kf_ThK T.kf_RuK), .all (al3 fun _ _ _ => rfl), .nil, fun _ => .nil⟩, k30⟩
  have M_Thing_modes : FN l.prog w K mg base 1 f12 1 (g_Thing_modes C_Thing) := ⟨⟨_, _, def_okA l12 c12 sc_Thing_modes rfl (fun cdv A outer s H E hr => der_Thing_modes T hr) (rd_Thing_modes T.kf_ThK), .all (al1 fun _ => rfl)⟩, k12⟩
  have M_Thing_pushes : FN l.prog w K mg base 1 f11 1 (g_Thing_pushes C_Thing) := ⟨⟨_, _, def_okA l11 c11 sc_Thing_pushes rfl (fun cdv A outer s H E hr => der_Thing_pushes T hr) (rd_Thing_pushes T.kf_ThK), .all (al1 fun _ => rfl)⟩, k11⟩
  have D_is_room : FD l.prog w K mg base 3 f5 2 [] g_is_room := ⟨⟨_, _, [], [], def_okA l5 c5 sc_is_room rfl (fun cdv A outer s H E hr => der_is_room T D_is_row hr) rd_is_room, .all (al2 fun _ _ => rfl), .nil, fun _ => .nil⟩, k5⟩
  have D_is_table : FD l.prog w K mg base 3 f6 3 [] g_is_table := ⟨⟨_, _, [], [], def_okA l6 c6 sc_is_table rfl (fun cdv A outer s H E hr => der_is_table T D_are_wholes hr) rd_is_table, .all (al3 fun _ _ _ => rfl), .nil, fun _ => .nil⟩, k6⟩
  have D_is_mode : FD l.prog w K mg base 4 f8 3 [] (g_is_mode C_Mode) := ⟨⟨_, _, [], [], def_okA l8 c8 sc_is_mode rfl (fun cdv A outer s H E hr => der_is_mode T D_is_whole D_are_wholes D_is_room D_is_table hr) (rd_is_mode T.kf_ThK), .all (al3 fun _ _ _ => rfl), .nil, fun _ => .nil⟩, k8⟩
  have D_is_push : FD l.prog w K mg base 2 f9 1 [] g_is_push := ⟨⟨_, _, [], [], def_okA l9 c9 sc_is_push rfl (fun cdv A outer s H E hr => der_is_push T D_is_whole hr) rd_is_push, .all (al1 fun _ => rfl), .nil, fun _ => .nil⟩, k9⟩
  have I_Thing : FI l.prog w K mg base 5 C_Thing 4 [] (g_Thing_init C_Mode C_BadThing C_TooMany) := ⟨⟨f10, _, _, [], [], def_okI (C := C_Thing) l10 c10 sc_Thing_init rfl (fun cdv A outer s H E hr => der_Thing_init T D_is_whole D_is_mode D_is_push hr) (rd_Thing_init T.kf_ThK), .all (al4 fun _ _ _ _ => rfl), .nil, fun _ => .nil, ⟨q95, a10, n10, q96⟩⟩⟩
  have D_steered : FD l.prog w K mg base 14 f31 2 [] (g_steered C_Straight C_Stopped C_Parted C_Mode C_Thing) := ⟨⟨_, _, [], [], def_okA l31 c31 sc_steered rfl (fun cdv A outer s H E hr => der_steered T D_pieces D_put_in M_Thing_modes M_Thing_pushes I_Thing hr) (rd_steered T.kf_ThK), .all (al2 fun _ _ => rfl), .nil, fun _ => .nil⟩, k31⟩
  have D_misread : FD l.prog w K mg base 6 f32 2 [] (g_misread C_Straight C_Mode) := ⟨⟨_, _, [], [], def_okA l32 c32 sc_misread rfl (fun cdv A outer s H E hr => der_misread T D_scaled D_put_in I_Mode hr) (rd_misread T.kf_ThK T.kf_RuK), .all (al2 fun _ _ => rfl), .nil, fun _ => .nil⟩, k32⟩
  have D_rounded : FD l.prog w K mg base 14 f33 3 [] (g_rounded C_Straight C_Mode C_Thing) := ⟨⟨_, _, [], [], def_okA l33 c33 sc_rounded rfl (fun cdv A outer s H E hr => der_rounded T D_is_whole D_pieces D_misread M_Thing_modes M_Thing_pushes I_Thing hr) (rd_rounded T.kf_ThK T.kf_RuK T.kf_StK), .all (al3 fun _ _ _ => rfl), .nil, fun _ => .nil⟩, k33⟩
  have D_wider : FD l.prog w K mg base 1 f34 1 [] g_wider := ⟨⟨_, _, [], [], def_okA l34 c34 sc_wider rfl (fun cdv A outer s H E hr => der_wider T hr) rd_wider, .all (al1 fun _ => rfl), .nil, fun _ => .nil⟩, k34⟩
  have D_put_late : FD l.prog w K mg base 5 f35 3 [] (g_put_late C_Straight C_Mode) := ⟨⟨_, _, [], [], def_okA l35 c35 sc_put_late rfl (fun cdv A outer s H E hr => der_put_late T D_scaled D_wider I_Mode hr) (rd_put_late T.kf_ThK T.kf_RuK), .all (al3 fun _ _ _ => rfl), .nil, fun _ => .nil⟩, k35⟩
  have D_late : FD l.prog w K mg base 14 f36 2 [] (g_late C_Straight C_Stopped C_Parted C_Mode C_Thing) := ⟨⟨_, _, [], [], def_okA l36 c36 sc_late rfl (fun cdv A outer s H E hr => der_late T D_pieces D_put_late M_Thing_modes M_Thing_pushes I_Thing hr) (rd_late T.kf_ThK), .all (al2 fun _ _ => rfl), .nil, fun _ => .nil⟩, k36⟩
  have D__law_cell_at : FD l.prog w K mg base 1 f37 2 [] g__law_cell_at := ⟨⟨_, _, [], [], def_okA l37 c37 sc__law_cell_at rfl (fun cdv A outer s H E hr => der__law_cell_at T hr) rd__law_cell_at, .all (al2 fun _ _ => rfl), .nil, fun _ => .nil⟩, k37⟩
  have D__law_stream : FD l.prog w K mg base 1 f38 2 [] g__law_stream := ⟨⟨_, _, [], [], def_okA l38 c38 sc__law_stream rfl (fun cdv A outer s H E hr => der__law_stream T hr) rd__law_stream, .all (al2 fun _ _ => rfl), .nil, fun _ => .nil⟩, k38⟩
  have D__law_number : FD l.prog w K mg base 1 f39 1 [] g__law_number := ⟨⟨_, _, [], [], def_okA l39 c39 sc__law_number rfl (fun cdv A outer s H E hr => der__law_number T hr) rd__law_number, .all (al1 fun _ => rfl), .nil, fun _ => .nil⟩, k39⟩
  have D__law_parts : FD l.prog w K mg base 2 f40 3 [] g__law_parts := ⟨⟨_, _, [], [], def_okA l40 c40 sc__law_parts rfl (fun cdv A outer s H E hr => der__law_parts T D__law_stream D__law_number hr) rd__law_parts, .all (al3 fun _ _ _ => rfl), .nil, fun _ => .nil⟩, k40⟩
  have D__law_straight : FD l.prog w K mg base 4 f41 2 [] (g__law_straight C_Straight) := ⟨⟨_, _, [], [], def_okA l41 c41 sc__law_straight rfl (fun cdv A outer s H E hr => der__law_straight T D__law_stream D__law_number I_Straight hr) rd__law_straight, .all (al2 fun _ _ => rfl), .nil, fun _ => .nil⟩, k41⟩
  have I_Parted : FI l.prog w K mg base 1 C_Parted 4 [] g_Parted_init := ⟨⟨f23, _, _, [], [], def_okI (C := C_Parted) l23 c23 sc_Parted_init rfl (fun cdv A outer s H E hr => der_Parted_init T hr) (rd_Parted_init T.kf_RuK), .all (al4 fun _ _ _ _ => rfl), .nil, fun _ => .nil, ⟨q89, a23, n23, q90⟩⟩⟩
  have I_Stopped : FI l.prog w K mg base 1 C_Stopped 4 [] g_Stopped_init := ⟨⟨f18, _, _, [], [], def_okI (C := C_Stopped) l18 c18 sc_Stopped_init rfl (fun cdv A outer s H E hr => der_Stopped_init T hr) (rd_Stopped_init T.kf_RuK), .all (al4 fun _ _ _ _ => rfl), .nil, fun _ => .nil, ⟨q91, a18, n18, q92⟩⟩⟩
  have D__law_rule : FD l.prog w K mg base 5 f42 2 [] (g__law_rule C_Straight C_Stopped C_Parted) := ⟨⟨_, _, [], [], def_okA l42 c42 sc__law_rule rfl (fun cdv A outer s H E hr => der__law_rule T D__law_cell_at D__law_stream D__law_number D__law_straight I_Parted I_Stopped hr) rd__law_rule, .all (al2 fun _ _ => rfl), .nil, fun _ => .nil⟩, k42⟩
  have D__law_scaled : FD l.prog w K mg base 1 f43 2 [] g__law_scaled := ⟨⟨_, _, [], [], def_okA l43 c43 sc__law_scaled rfl (fun cdv A outer s H E hr => der__law_scaled T hr) rd__law_scaled, .all (al2 fun _ _ => rfl), .nil, fun _ => .nil⟩, k43⟩
  have D__law_put : FD1 l.prog w K mg base 2 f44 3 [] g__law_put := ⟨⟨_, _, def_ok1 l44 c44 sc__law_put rfl (fun cdv A outer s H E hr => der__law_put T D__law_scaled hr) rd__law_put, .all (al3 fun _ _ _ => rfl)⟩, k44⟩
  have D__law_put_late : FD l.prog w K mg base 2 f45 3 [] g__law_put_late := ⟨⟨_, _, [], [], def_okA l45 c45 sc__law_put_late rfl (fun cdv A outer s H E hr => der__law_put_late T D__law_scaled hr) rd__law_put_late, .all (al3 fun _ _ _ => rfl), .nil, fun _ => .nil⟩, k45⟩
  have D__law_told : FD l.prog w K mg base 2 f46 1 [] (g__law_told C_Mode C_Thing) := ⟨⟨_, _, [], [], def_okA l46 c46 sc__law_told rfl (fun cdv A outer s H E hr => der__law_told T M_Thing_modes hr) (rd__law_told T.kf_ThK), .all (al1 fun _ => rfl), .nil, fun _ => .nil⟩, k46⟩
  have M_Thing_is_closed : FN l.prog w K mg base 1 f13 1 (g_Thing_is_closed C_Mode C_Thing) := ⟨⟨_, _, def_okA l13 c13 sc_Thing_is_closed rfl (fun cdv A outer s H E hr => der_Thing_is_closed T hr) (rd_Thing_is_closed T.kf_ThK), .all (al1 fun _ => rfl)⟩, k13⟩
  have D__law_right : FD l.prog w K mg base 3 f47 4 [] (g__law_right C_Mode C_Thing) := ⟨⟨_, _, [], [], def_okA l47 c47 sc__law_right rfl (fun cdv A outer s H E hr => der__law_right T D__law_told M_Thing_is_closed M_Thing_pushes hr) (rd__law_right T.kf_ThK T.kf_TtK), .all (al4 fun _ _ _ _ => rfl), .nil, fun _ => .nil⟩, k47⟩
  exact def_okA l48 c48 sc_law rfl (fun cdv A outer s H E hr => der_law T D_pieces D_steered D_rounded D_late D__law_cell_at D__law_parts D__law_straight D__law_rule D__law_scaled D__law_put D__law_put_late D__law_told D__law_right M_Thing_pushes I_Mode I_Thing hr) (rd_law T.kf_ThK T.kf_RuK)
end K32
open PySem PySem.W PyProof.Rows in
set_option maxRecDepth 100000 in
set_option maxHeartbeats 0 in
theorem PySem.Challenge.cw_steadyhand_k32_modes_of_steered_things_holds : PySem.Challenge.rw_steadyhand_k32_modes_of_steered_things.Holds := by
  w_on; o_law; k_head; (case hw => w_witness2)
  k_fill
  refine Dl.law_end (l := PySem.Challenge.rw_steadyhand_k32_modes_of_steered_things) (n := 63) (k := 15) (x := "_law_script") rfl (by decide) rfl ⟨rfl, by decide, by decide⟩ (fun w h Y => PySem.W.kIn_of Y) ?F
  case F =>
    intro w mg fa h KX G hmg
    refine' K32.all_mk KX G hmg ?aC_BadThing ?aC_TooMany ?aC_Mode ?aC_Thing ?aC_Rule ?aC_Straight ?aC_Stopped ?aC_Parted ?a0 ?l0 ?c0 ?k0 ?a1 ?l1 ?c1 ?k1 ?a2 ?l2 ?c2 ?k2 ?a3 ?l3 ?c3 ?k3 ?a4 ?l4 ?c4 ?k4 ?a5 ?l5 ?c5 ?k5 ?a6 ?l6 ?c6 ?k6 ?a7 ?l7 ?c7 ?k7 ?n7 ?a8 ?l8 ?c8 ?k8 ?a9 ?l9 ?c9 ?k9 ?a10 ?l10 ?c10 ?k10 ?n10 ?a11 ?l11 ?c11 ?k11 ?n11 ?a12 ?l12 ?c12 ?k12 ?n12 ?a13 ?l13 ?c13 ?k13 ?n13 ?a14 ?l14 ?c14 ?k14 ?n14 ?a15 ?l15 ?c15 ?k15 ?n15 ?t15 ?a16 ?l16 ?c16 ?k16 ?n16 ?a17 ?l17 ?c17 ?k17 ?n17 ?a18 ?l18 ?c18 ?k18 ?n18 ?a19 ?l19 ?c19 ?k19 ?n19 ?a20 ?l20 ?c20 ?k20 ?n20 ?a21 ?l21 ?c21 ?k21 ?n21 ?a22 ?l22 ?c22 ?k22 ?a23 ?l23 ?c23 ?k23 ?n23 ?a24 ?l24 ?c24 ?k24 ?n24 ?a25 ?l25 ?c25 ?k25 ?n25 ?a26 ?l26 ?c26 ?k26 ?n26 ?a27 ?l27 ?c27 ?k27 ?a28 ?l28 ?c28 ?k28 ?a29 ?l29 ?c29 ?k29 ?a30 ?l30 ?c30 ?k30 ?a31 ?l31 ?c31 ?k31 ?a32 ?l32 ?c32 ?k32 ?a33 ?l33 ?c33 ?k33 ?a34 ?l34 ?c34 ?k34 ?a35 ?l35 ?c35 ?k35 ?a36 ?l36 ?c36 ?k36 ?a37 ?l37 ?c37 ?k37 ?a38 ?l38 ?c38 ?k38 ?a39 ?l39 ?c39 ?k39 ?a40 ?l40 ?c40 ?k40 ?a41 ?l41 ?c41 ?k41 ?a42 ?l42 ?c42 ?k42 ?a43 ?l43 ?c43 ?k43 ?a44 ?l44 ?c44 ?k44 ?a45 ?l45 ?c45 ?k45 ?a46 ?l46 ?c46 ?k46 ?a47 ?l47 ?c47 ?k47 ?a48 ?l48 ?c48 ?k48 ?z0 ?z1 ?z2 ?z3 ?z4 ?z5 ?z6 ?z7 ?z8 ?g_MOST_MODES ?g_MOST_NUMBERS ?g_MOST_PIECES ?g_MOST_PUSHES ?q0 ?q1 ?q2 ?q3 ?q4 ?q5 ?q6 ?q7 ?q8 ?q9 ?q10 ?q11 ?q12 ?q13 ?q14 ?q15 ?q16 ?q17 ?q18 ?q19 ?q20 ?q21 ?q22 ?q23 ?q24 ?q25 ?q26 ?q27 ?q28 ?q29 ?q30 ?q31 ?q32 ?q33 ?q34 ?q35 ?q36 ?q37 ?q38 ?q39 ?q40 ?q41 ?q42 ?q43 ?q44 ?q45 ?q46 ?q47 ?q48 ?q49 ?q50 ?q51 ?q52 ?q53 ?q54 ?q55 ?q56 ?q57 ?q58 ?q59 ?q60 ?q61 ?q62 ?q63 ?q64 ?q65 ?q66 ?q67 ?q68 ?q69 ?q70 ?q71 ?q72 ?q73 ?q74 ?q75 ?q76 ?q77 ?q78 ?q79 ?q80 ?q81 ?q82 ?q83 ?q84 ?q85 ?q86 ?q87 ?q88 ?q89 ?q90 ?q91 ?q92 ?q93 ?q94 ?q95 ?q96
    (case aC_BadThing => k_is)
    (case aC_TooMany => k_is)
    (case aC_Mode => k_is)
    (case aC_Thing => k_is)
    (case aC_Rule => k_is)
    (case aC_Straight => k_is)
    (case aC_Stopped => k_is)
    (case aC_Parted => k_is)
    (case a0 => k_is)
    (case l0 => k_is)
    (case c0 => k_is)
    (case k0 => k_is)
    (case a1 => k_is)
    (case l1 => k_is)
    (case c1 => k_is)
    (case k1 => k_is)
    (case a2 => k_is)
    (case l2 => k_is)
    (case c2 => k_is)
    (case k2 => k_is)
    (case a3 => k_is)
    (case l3 => k_is)
    (case c3 => k_is)
    (case k3 => k_is)
    (case a4 => k_is)
    (case l4 => k_is)
    (case c4 => k_is)
    (case k4 => k_is)
    (case a5 => k_is)
    (case l5 => k_is)
    (case c5 => k_is)
    (case k5 => k_is)
    (case a6 => k_is)
    (case l6 => k_is)
    (case c6 => k_is)
    (case k6 => k_is)
    (case a7 => k_is)
    (case l7 => k_is)
    (case c7 => k_is)
    (case k7 => k_is)
    (case n7 => k_is)
    (case a8 => k_is)
    (case l8 => k_is)
    (case c8 => k_is)
    (case k8 => k_is)
    (case a9 => k_is)
    (case l9 => k_is)
    (case c9 => k_is)
    (case k9 => k_is)
    (case a10 => k_is)
    (case l10 => k_is)
    (case c10 => k_is)
    (case k10 => k_is)
    (case n10 => k_is)
    (case a11 => k_is)
    (case l11 => k_is)
    (case c11 => k_is)
    (case k11 => k_is)
    (case n11 => k_is)
    (case a12 => k_is)
    (case l12 => k_is)
    (case c12 => k_is)
    (case k12 => k_is)
    (case n12 => k_is)
    (case a13 => k_is)
    (case l13 => k_is)
    (case c13 => k_is)
    (case k13 => k_is)
    (case n13 => k_is)
    (case a14 => k_is)
    (case l14 => k_is)
    (case c14 => k_is)
    (case k14 => k_is)
    (case n14 => k_is)
    (case a15 => k_is)
    (case l15 => k_is)
    (case c15 => k_is)
    (case k15 => k_is)
    (case n15 => k_is)
    (case t15 => k_is)
    (case a16 => k_is)
    (case l16 => k_is)
    (case c16 => k_is)
    (case k16 => k_is)
    (case n16 => k_is)
    (case a17 => k_is)
    (case l17 => k_is)
    (case c17 => k_is)
    (case k17 => k_is)
    (case n17 => k_is)
    (case a18 => k_is)
    (case l18 => k_is)
    (case c18 => k_is)
    (case k18 => k_is)
    (case n18 => k_is)
    (case a19 => k_is)
    (case l19 => k_is)
    (case c19 => k_is)
    (case k19 => k_is)
    (case n19 => k_is)
    (case a20 => k_is)
    (case l20 => k_is)
    (case c20 => k_is)
    (case k20 => k_is)
    (case n20 => k_is)
    (case a21 => k_is)
    (case l21 => k_is)
    (case c21 => k_is)
    (case k21 => k_is)
    (case n21 => k_is)
    (case a22 => k_is)
    (case l22 => k_is)
    (case c22 => k_is)
    (case k22 => k_is)
    (case a23 => k_is)
    (case l23 => k_is)
    (case c23 => k_is)
    (case k23 => k_is)
    (case n23 => k_is)
    (case a24 => k_is)
    (case l24 => k_is)
    (case c24 => k_is)
    (case k24 => k_is)
    (case n24 => k_is)
    (case a25 => k_is)
    (case l25 => k_is)
    (case c25 => k_is)
    (case k25 => k_is)
    (case n25 => k_is)
    (case a26 => k_is)
    (case l26 => k_is)
    (case c26 => k_is)
    (case k26 => k_is)
    (case n26 => k_is)
    (case a27 => k_is)
    (case l27 => k_is)
    (case c27 => k_is)
    (case k27 => k_is)
    (case a28 => k_is)
    (case l28 => k_is)
    (case c28 => k_is)
    (case k28 => k_is)
    (case a29 => k_is)
    (case l29 => k_is)
    (case c29 => k_is)
    (case k29 => k_is)
    (case a30 => k_is)
    (case l30 => k_is)
    (case c30 => k_is)
    (case k30 => k_is)
    (case a31 => k_is)
    (case l31 => k_is)
    (case c31 => k_is)
    (case k31 => k_is)
    (case a32 => k_is)
    (case l32 => k_is)
    (case c32 => k_is)
    (case k32 => k_is)
    (case a33 => k_is)
    (case l33 => k_is)
    (case c33 => k_is)
    (case k33 => k_is)
    (case a34 => k_is)
    (case l34 => k_is)
    (case c34 => k_is)
    (case k34 => k_is)
    (case a35 => k_is)
    (case l35 => k_is)
    (case c35 => k_is)
    (case k35 => k_is)
    (case a36 => k_is)
    (case l36 => k_is)
    (case c36 => k_is)
    (case k36 => k_is)
    (case a37 => k_is)
    (case l37 => k_is)
    (case c37 => k_is)
    (case k37 => k_is)
    (case a38 => k_is)
    (case l38 => k_is)
    (case c38 => k_is)
    (case k38 => k_is)
    (case a39 => k_is)
    (case l39 => k_is)
    (case c39 => k_is)
    (case k39 => k_is)
    (case a40 => k_is)
    (case l40 => k_is)
    (case c40 => k_is)
    (case k40 => k_is)
    (case a41 => k_is)
    (case l41 => k_is)
    (case c41 => k_is)
    (case k41 => k_is)
    (case a42 => k_is)
    (case l42 => k_is)
    (case c42 => k_is)
    (case k42 => k_is)
    (case a43 => k_is)
    (case l43 => k_is)
    (case c43 => k_is)
    (case k43 => k_is)
    (case a44 => k_is)
    (case l44 => k_is)
    (case c44 => k_is)
    (case k44 => k_is)
    (case a45 => k_is)
    (case l45 => k_is)
    (case c45 => k_is)
    (case k45 => k_is)
    (case a46 => k_is)
    (case l46 => k_is)
    (case c46 => k_is)
    (case k46 => k_is)
    (case a47 => k_is)
    (case l47 => k_is)
    (case c47 => k_is)
    (case k47 => k_is)
    (case a48 => k_is)
    (case l48 => k_is)
    (case c48 => k_is)
    (case k48 => k_is)
    (case z0 => k_is)
    (case z1 => k_is)
    (case z2 => k_is)
    (case z3 => k_is)
    (case z4 => k_is)
    (case z5 => k_is)
    (case z6 => k_is)
    (case z7 => k_is)
    (case z8 => k_is)
    (case g_MOST_MODES => k_is)
    (case g_MOST_NUMBERS => k_is)
    (case g_MOST_PIECES => k_is)
    (case g_MOST_PUSHES => k_is)
    (case q0 => k_is)
    (case q1 => k_is)
    (case q2 => k_is)
    (case q3 => k_is)
    (case q4 => k_is)
    (case q5 => k_is)
    (case q6 => k_is)
    (case q7 => k_is)
    (case q8 => k_is)
    (case q9 => k_is)
    (case q10 => k_is)
    (case q11 => k_is)
    (case q12 => k_is)
    (case q13 => k_is)
    (case q14 => k_is)
    (case q15 => k_is)
    (case q16 => k_is)
    (case q17 => k_exc)
    (case q18 => k_is)
    (case q19 => k_is)
    (case q20 => k_is)
    (case q21 => k_exc)
    (case q22 => k_is)
    (case q23 => k_is)
    (case q24 => k_is)
    (case q25 => k_is)
    (case q26 => k_is)
    (case q27 => k_is)
    (case q28 => k_is)
    (case q29 => k_is)
    (case q30 => k_is)
    (case q31 => k_is)
    (case q32 => k_is)
    (case q33 => k_is)
    (case q34 => k_is)
    (case q35 => k_is)
    (case q36 => k_is)
    (case q37 => k_is)
    (case q38 => k_is)
    (case q39 => k_is)
    (case q40 => k_is)
    (case q41 => k_is)
    (case q42 => k_is)
    (case q43 => k_is)
    (case q44 => k_is)
    (case q45 => k_is)
    (case q46 => first | rfl | k_is)
    (case q47 => first | rfl | k_is)
    (case q48 => first | rfl | decide)
    (case q49 => first | rfl | k_is)
    (case q50 => first | rfl | decide)
    (case q51 => first | rfl | k_is)
    (case q52 => first | rfl | decide)
    (case q53 => first | rfl | k_is)
    (case q54 => first | rfl | decide)
    (case q55 => first | rfl | k_is)
    (case q56 => first | rfl | decide)
    (case q57 => first | rfl | k_is)
    (case q58 => first | rfl | decide)
    (case q59 => first | rfl | k_is)
    (case q60 => first | rfl | decide)
    (case q61 => k_is)
    (case q62 => k_is)
    (case q63 => k_is)
    (case q64 => k_is)
    (case q65 => k_is)
    (case q66 => k_is)
    (case q67 => k_is)
    (case q68 => k_is)
    (case q69 => k_is)
    (case q70 => k_is)
    (case q71 => k_is)
    (case q72 => k_is)
    (case q73 => k_is)
    (case q74 => k_is)
    (case q75 => k_is)
    (case q76 => k_is)
    (case q77 => k_is)
    (case q78 => first | rfl | k_is)
    (case q79 => first | rfl | k_is)
    (case q80 => first | rfl | k_is)
    (case q81 => k_is)
    (case q82 => k_is)
    (case q83 => first | rfl | k_is)
    (case q84 => k_is)
    (case q85 => k_is)
    (case q86 => first | rfl | k_is)
    (case q87 => k_is)
    (case q88 => k_is)
    (case q89 => k_is)
    (case q90 => k_is)
    (case q91 => k_is)
    (case q92 => k_is)
    (case q93 => k_is)
    (case q94 => k_is)
    (case q95 => k_is)
    (case q96 => k_is)
#print axioms PySem.Challenge.cw_steadyhand_k32_modes_of_steered_things_holds
