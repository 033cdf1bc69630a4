import PyProof.Rows.All
import Wide.All
import OpenK.AllK
import Wide.FinOn
import HandS.ForMost
import HandS.Exc
import HandS.ExcOwn
import HandS.CallSlots
import HandS.WordsExc
import HandS.IsInst
import HandS.Walk
import HandS.TupMul
import HandS.Flow
import KE.GoesZip
import KE.GoesMore
import HandS.EndBits
import HandS.TupLe
import HandS.TryOnly
import HandS.ExcIs
import HandS.Dict
import HandS.Conv
import KE.KDictCopyH
import HandS.Text
import KE.IntTextLaws
import HandS.Defaults
import PySem.Challenge.RW_steadyhand_k92_rules_claims_things_as_te
set_option Elab.async false
set_option linter.all false
set_option maxRecDepth 100000
set_option maxHeartbeats 2000000
/-! The D-layer, part 1: trees of values, how they lie in the abstract heap, environments of trees. -/
namespace Dl
/-- a fork that a reading stops at while its test is open -/
def ifP (b : Bool) (A B : Prop) : Prop := match b with
  | true => A
  | false => B
theorem ifP_t (A B : Prop) : ifP true A B = A := rfl
theorem ifP_f (A B : Prop) : ifP false A B = B := rfl
open PySem PySem.Spec
open PyProof.Rows L2

/-- a value as a tree; frl: a list that nobody writes (the script) -/
inductive D where
  | non | bl (b : Bool) | int (i : Int) | str (x : Str) | ty (n : String) | cls (C : Addr)
  | tup (ds : List D) | lst (ds : List D) | frl (ds : List D) | ins (C : Addr) (fs : List (Str × D)) | dic (kvs : List (Key × D))
  | ob (v : V)
  | mu (ds : List D)
/-- a list that is changed by nobody, one that may be changed one day, one that was there ahead of all -/
inductive Tg where
  | a | j | k
/-- what is frozen, and what its lists are -/
structure Fz where
  h : Hp
  j : Addr → Tg
  wl : ∀ p, j p = .j → ∃ vs, h p = some (.lst vs)
  wf : ∀ p, h p = none → j p = .a
instance : CoeFun Fz (fun _ => Addr → Option HO) := ⟨Fz.h⟩
instance : Coe Fz Hp := ⟨Fz.h⟩
structure SameF (F F' : Fz) : Prop where
  s : Same F.h F'.h
  j : ∀ p, F.h p ≠ none → F'.j p = F.j p
theorem SameF.refl (F : Fz) : SameF F F := ⟨Same.refl _, fun _ _ => rfl⟩
theorem SameF.trans {F F' F'' : Fz} (a : SameF F F') (b : SameF F' F'') : SameF F F'' := ⟨a.s.trans b.s, fun p h => (b.j p fun z => h (a.s.free z)).trans (a.j p h)⟩
def Fz.upd (F : Fz) (p : Addr) (o : HO) : Fz := ⟨L2.upd F.h p o, fun q => if q = p then .a else F.j q, fun q h => by
  by_cases z : q = p
  · rw [if_pos z] at h; cases h
  · rw [if_neg z] at h; rw [upd_ne z]; exact F.wl q h, fun q h => by
  by_cases z : q = p
  · rw [if_pos z]
  · rw [if_neg z]; rw [upd_ne z] at h; exact F.wf q h⟩
/-- what is frozen for good; what was there ahead of all -/
def Fz.sh (F : Fz) : Hp := fun p => match F.j p with
  | .j => none
  | _ => F.h p
def Fz.kh (F : Fz) : Hp := fun p => match F.j p with
  | .k => F.h p
  | _ => none
theorem Fz.kh_of (F : Fz) {p : Addr} (h : F.j p = .k) : F.kh p = F.h p := by
  unfold Fz.kh
  rw [h]
theorem Fz.kh_inv (F : Fz) {p : Addr} {o : HO} (h : F.kh p = some o) : F.j p = .k ∧ F.h p = some o := by
  unfold Fz.kh at h
  cases q : F.j p <;> rw [q] at h <;> first | cases h | exact ⟨rfl, h⟩
theorem Fz.kh_same (F : Fz) : Same F.kh F.h := fun b o e => (F.kh_inv e).2
theorem SameF.kh {F F' : Fz} (a : SameF F F') : Same F.kh F'.kh := fun b o e => by
  obtain ⟨q, e⟩ := F.kh_inv e
  rw [F'.kh_of ((a.j b (fun z => by rw [z] at e; cases e)).trans q)]
  exact a.s b o e
/-- the same on a greater heap -/
def Fz.up (F : Fz) (H : Hp) (e : Same F.h H) : Fz := ⟨H, F.j, fun p h => let ⟨vs, z⟩ := F.wl p h; ⟨vs, e _ _ z⟩, fun p h => F.wf p (e.free h)⟩

mutual
/-- how a tree lies in an abstract heap -/
inductive Rep (K : PySem.W.Frag) (H : Fz) : D → V → Prop
  | non : Rep K H .non .non
  | bl (b : Bool) : Rep K H (.bl b) (.bl b)
  | int (i : Int) : Rep K H (.int i) (.int i)
  | str (x : Str) : Rep K H (.str x) (.str x)
  | ty (n : String) : Rep K H (.ty n) (.ty n)
  | cls (C : Addr) : Rep K H (.cls C) (.ref C)
  | ob (v : V) : Rep K H (.ob v) v
  | tup {a : Addr} {vs : List V} {ds : List D} : H.h a = some (.tup vs) → vs.length ≤ sizeLine → Reps K H ds vs → Rep K H (.tup ds) (.ref a)
  | lst {a : Addr} {vs : List V} {ds : List D} : H.h a = some (.lst vs) → H.j a = .a → vs.length ≤ sizeLine → Reps K H ds vs → Rep K H (.lst ds) (.ref a)
  | mu {a : Addr} {vs : List V} {ds : List D} : H.h a = some (.lst vs) → H.j a = .j → vs.length ≤ sizeLine → Reps K H ds vs → Rep K H (.mu ds) (.ref a)
  | frl {a : Addr} {vs : List V} {ds : List D} : SqL K H.kh a vs → vs.length ≤ sizeLine → Reps K H ds vs → Rep K H (.frl ds) (.ref a)
  | ins {a C dx : Addr} {fvs : List (Str × V)} {fs : List (Str × D)} : H.h a = some (.ins C dx fvs) → RepF K H fs fvs → Rep K H (.ins C fs) (.ref a)
  | dic {a : Addr} {kvs : List (Key × V)} {ds : List (Key × D)} : H.h a = some (.dK kvs) → RepK K H ds kvs → Rep K H (.dic ds) (.ref a)
inductive Reps (K : PySem.W.Frag) (H : Fz) : List D → List V → Prop
  | nil : Reps K H [] []
  | cons {d : D} {v : V} {ds : List D} {vs : List V} : Rep K H d v → Reps K H ds vs → Reps K H (d :: ds) (v :: vs)
inductive RepF (K : PySem.W.Frag) (H : Fz) : List (Str × D) → List (Str × V) → Prop
  | nil : RepF K H [] []
  | cons {f : Str} {d : D} {v : V} {ds : List (Str × D)} {vs : List (Str × V)} : Rep K H d v → RepF K H ds vs → RepF K H ((f, d) :: ds) ((f, v) :: vs)
inductive RepK (K : PySem.W.Frag) (H : Fz) : List (Key × D) → List (Key × V) → Prop
  | nil : RepK K H [] []
  | cons {f : Key} {d : D} {v : V} {ds : List (Key × D)} {vs : List (Key × V)} : Rep K H d v → RepK K H ds vs → RepK K H ((f, d) :: ds) ((f, v) :: vs)
end

theorem ne_some {α : Type} {x : Option α} {o : α} (h : x = some o) : x ≠ none := fun z => by rw [h] at z; cases z
theorem same_seqT {K : PySem.W.Frag} {H H' : Hp} {a : Addr} {xs : List V} (e : Same H H') (h : SqT K H a xs) : SqT K H' a xs :=
  h.elim (fun q => .inl (q.elim (fun z => .inl (e _ _ z)) fun ⟨o, z⟩ => .inr ⟨o, e _ _ z⟩)) .inr
theorem same_seqL {K : PySem.W.Frag} {H H' : Hp} {a : Addr} {xs : List V} (e : Same H H') (h : SqL K H a xs) : SqL K H' a xs :=
  h.elim (fun q => .inl (q.elim (fun z => .inl (e _ _ z)) fun ⟨o, z⟩ => .inr ⟨o, e _ _ z⟩)) .inr
section
variable {K : PySem.W.Frag} {H H' : Fz}
mutual
theorem Rep.mono (e : SameF H H') : ∀ {d : D} {v : V}, Rep K H d v → Rep K H' d v
  | _, _, .non => .non
  | _, _, .bl b => .bl b
  | _, _, .int i => .int i
  | _, _, .str x => .str x
  | _, _, .ty n => .ty n
  | _, _, .cls C => .cls C
  | _, _, .ob v => .ob v
  | _, _, .tup s l r => .tup (e.s _ _ s) l (Reps.mono e r)
  | _, _, .lst s q l r => .lst (e.s _ _ s) ((e.j _ (ne_some s)).trans q) l (Reps.mono e r)
  | _, _, .mu s q l r => .mu (e.s _ _ s) ((e.j _ (ne_some s)).trans q) l (Reps.mono e r)
  | _, _, .frl s l r => .frl (same_seqL e.kh s) l (Reps.mono e r)
  | _, _, .ins s r => .ins (e.s _ _ s) (RepF.mono e r)
  | _, _, .dic s r => .dic (e.s _ _ s) (RepK.mono e r)
theorem Reps.mono (e : SameF H H') : ∀ {d : List D} {v : List V}, Reps K H d v → Reps K H' d v
  | _, _, .nil => .nil
  | _, _, .cons r s => .cons (Rep.mono e r) (Reps.mono e s)
theorem RepF.mono (e : SameF H H') : ∀ {d : List (Str × D)} {v : List (Str × V)}, RepF K H d v → RepF K H' d v
  | _, _, .nil => .nil
  | _, _, .cons r s => .cons (Rep.mono e r) (RepF.mono e s)
theorem RepK.mono (e : SameF H H') : ∀ {d : List (Key × D)} {v : List (Key × V)}, RepK K H d v → RepK K H' d v
  | _, _, .nil => .nil
  | _, _, .cons r s => .cons (Rep.mono e r) (RepK.mono e s)
end
theorem Reps.length : ∀ {ds : List D} {vs : List V}, Reps K H ds vs → vs.length = ds.length
  | _, _, .nil => rfl
  | _, _, .cons _ s => congrArg (· + 1) (Reps.length s)
theorem Reps.get : ∀ {ds : List D} {vs : List V} {i : Nat} {d : D}, Reps K H ds vs → ds[i]? = some d → ∃ v, vs[i]? = some v ∧ Rep K H d v
  | _, _, _, _, .nil, e => by simp at e
  | _, _, 0, _, .cons r _, e => by simp at e; subst e; exact ⟨_, rfl, r⟩
  | _, _, i + 1, d, .cons _ s, e => by
    obtain ⟨v, h1, h2⟩ := Reps.get (i := i) (d := d) s (by simpa using e)
    exact ⟨v, by simpa using h1, h2⟩
theorem Reps.get' : ∀ {ds : List D} {vs : List V} {i : Nat} {v : V}, Reps K H ds vs → vs[i]? = some v → ∃ d, ds[i]? = some d ∧ Rep K H d v
  | _, _, _, _, .nil, e => by simp at e
  | _, _, 0, _, .cons r _, e => by simp at e; subst e; exact ⟨_, rfl, r⟩
  | _, _, i + 1, d, .cons _ s, e => by
    obtain ⟨v, h1, h2⟩ := Reps.get' (i := i) (v := d) s (by simpa using e)
    exact ⟨v, by simpa using h1, h2⟩
theorem Reps.append : ∀ {ds es : List D} {vs ws : List V}, Reps K H ds vs → Reps K H es ws → Reps K H (ds ++ es) (vs ++ ws)
  | _, _, _, _, .nil, s => s
  | _, _, _, _, .cons r t, s => .cons r (Reps.append t s)
theorem Reps.take : ∀ {ds : List D} {vs : List V} (n : Nat), Reps K H ds vs → Reps K H (ds.take n) (vs.take n)
  | _, _, 0, _ => by simp only [List.take_zero]; exact .nil
  | _, _, _ + 1, .nil => .nil
  | _, _, n + 1, .cons r t => .cons r (Reps.take n t)
theorem Reps.drop : ∀ {ds : List D} {vs : List V} (n : Nat), Reps K H ds vs → Reps K H (ds.drop n) (vs.drop n)
  | _, _, 0, r => r
  | _, _, _ + 1, .nil => .nil
  | _, _, n + 1, .cons _ t => Reps.drop n t
theorem Reps.set {d : D} {v : V} (r : Rep K H d v) : ∀ {ds : List D} {vs : List V} (i : Nat), Reps K H ds vs → Reps K H (ds.set i d) (vs.set i v)
  | _, _, _, .nil => .nil
  | _, _, 0, .cons _ t => .cons r t
  | _, _, i + 1, .cons q t => .cons q (Reps.set r i t)
theorem Reps.rep {ds : List D} {vs : List V} (h : Reps K H ds vs) : ∀ k : Nat, Reps K H (List.replicate k ds).flatten (List.replicate k vs).flatten
  | 0 => .nil
  | k + 1 => by
    rw [List.replicate_succ, List.replicate_succ, List.flatten_cons, List.flatten_cons]
    exact h.append (Reps.rep h k)
theorem Reps.ints : ∀ {ns : List Int} {vs : List V}, Reps K H (ns.map D.int) vs → vs = ns.map V.int
  | [], _, .nil => rfl
  | n :: ns, _, .cons r s => by
    cases r
    rw [Reps.ints s]
    rfl
theorem Reps.bls : ∀ {ns : List Bool} {vs : List V}, Reps K H (ns.map D.bl) vs → vs = ns.map V.bl
  | [], _, .nil => rfl
  | n :: ns, _, .cons r s => by
    cases r
    rw [Reps.bls s]
    rfl
theorem RepF.look {f : Str} : ∀ {fs : List (Str × D)} {fvs : List (Str × V)} {d : D}, RepF K H fs fvs → fs.lookup f = some d → ∃ v, fvs.lookup f = some v ∧ Rep K H d v
  | _, _, _, .nil, e => by simp at e
  | (g, d0) :: fs, (_, v0) :: fvs, d, .cons r s, e => by
    rw [List.lookup_cons] at e ⊢
    cases hb : f == g with
    | true => rw [hb] at e; cases e; exact ⟨_, rfl, r⟩
    | false => rw [hb] at e; exact RepF.look s e
theorem RepF.none {f : Str} : ∀ {fs : List (Str × D)} {fvs : List (Str × V)}, RepF K H fs fvs → fs.lookup f = none → fvs.lookup f = none
  | _, _, .nil, _ => rfl
  | (g, d0) :: fs, (_, v0) :: fvs, .cons r s, e => by
    rw [List.lookup_cons] at e ⊢
    cases hb : f == g with
    | true => rw [hb] at e; cases e
    | false => rw [hb] at e; exact RepF.none s e
theorem RepF.length : ∀ {ds : List (Str × D)} {vs : List (Str × V)}, RepF K H ds vs → vs.length = ds.length
  | _, _, .nil => rfl
  | _, _, .cons _ s => congrArg (· + 1) (RepF.length s)
end

/-! ### heaps: F what is frozen, H all -/
structure Go (F : Fz) (H : Hp) (F' : Fz) (H' : Hp) : Prop where
  ff : SameF F F'
  hh : Same H H'
  fh : Same F' H'
  nn : ∀ p, F p = none → H p ≠ none → F' p = none
theorem Go.refl {F : Fz} {H : Hp} (e : Same F H) : Go F H F H := ⟨SameF.refl _, Same.refl _, e, fun _ h _ => h⟩
theorem Go.trans {F : Fz} {H : Hp} {F1 : Fz} {H1 : Hp} {F2 : Fz} {H2 : Hp} (a : Go F H F1 H1) (b : Go F1 H1 F2 H2) : Go F H F2 H2 :=
  ⟨a.ff.trans b.ff, a.hh.trans b.hh, b.fh, fun p h1 h2 => b.nn p (a.nn p h1 h2) fun z => h2 (a.hh.free z)⟩
theorem same_upd {H : Hp} {p : Addr} {o : HO} (h : H p = none) : Same H (upd H p o) := fun b u e => by
  rw [upd_ne (ne_of_none e h)]; exact e
theorem Fz.upd_h (F : Fz) (p : Addr) (o : HO) : (F.upd p o).h = L2.upd F.h p o := rfl
theorem Fz.upd_j (F : Fz) (p : Addr) (o : HO) (h : F.h p = none) (q : Addr) : (F.upd p o).j q = F.j q := by
  show (if q = p then Tg.a else F.j q) = F.j q
  by_cases z : q = p
  · rw [if_pos z, z, F.wf p h]
  · rw [if_neg z]
theorem Fz.upd_p (F : Fz) (p : Addr) (o : HO) : (F.upd p o).j p = .a := by
  show (if p = p then Tg.a else F.j p) = Tg.a
  rw [if_pos rfl]
theorem same_updF {F : Fz} {p : Addr} {o : HO} (h : F p = none) : SameF F (F.upd p o) := ⟨same_upd h, fun q _ => F.upd_j p o h q⟩
theorem Go.alloc {F : Fz} {H : Hp} {p : Addr} {o : HO} (e : Same F H) (h : H p = none) : Go F H (F.upd p o) (upd H p o) := by
  refine ⟨same_updF (e.free h), same_upd h, fun b u q => ?_, fun q h1 h2 => ?_⟩
  · rw [Fz.upd_h] at q
    by_cases z : b = p
    · subst z; rw [upd_same] at q ⊢; exact q
    · rw [upd_ne z] at q ⊢; exact e _ _ q
  · rw [Fz.upd_h, upd_ne (fun z => by rw [z] at h2; exact h2 h)]; exact h1

/-! ### environments -/
/-- a name: without a value, a tree (of what is frozen), a list of one's own, an instance that is being made -/
inductive Sl where
  | no | sh (d : D) | ow (ds : List D) | oi (C : Addr × Addr) (fs : List (Str × D)) | od (kvs : List (List Key × D))
abbrev Env' := List Sl
def Sl.own : Sl → Bool
  | .ow _ => true
  | .oi _ _ => true
  | .od _ => true
  | _ => false
/-- a dict's pairs, its keys tuples of ints and texts -/
inductive RepT (K : PySem.W.Frag) (H : Fz) : List (List Key × D) → List (List Key × V) → Prop
  | nil : RepT K H [] []
  | cons {f : List Key} {d : D} {v : V} {ds : List (List Key × D)} {vs : List (List Key × V)} : Rep K H d v → RepT K H ds vs → RepT K H ((f, d) :: ds) ((f, v) :: vs)
theorem RepT.mono {K : PySem.W.Frag} {H H' : Fz} (e : SameF H H') : ∀ {ds : List (List Key × D)} {vs : List (List Key × V)}, RepT K H ds vs → RepT K H' ds vs
  | _, _, .nil => .nil
  | _, _, .cons r s => .cons (r.mono e) (RepT.mono e s)
structure Rl (K : PySem.W.Frag) (ρ : Env') (σ : L2.St) (F : Fz) (H : Hp) : Prop where
  len : ρ.length = σ.length
  fh : Same F H
  sh : ∀ (i : Nat) (d : D), ρ[i]? = some (.sh d) → ∃ v, σ[i]? = some (some v) ∧ Rep K F d v
  ow : ∀ (i : Nat) (ds : List D), ρ[i]? = some (.ow ds) → ∃ (p : Addr) (vs : List V), σ[i]? = some (some (.ref p)) ∧ H p = some (.lst vs) ∧ F p = none ∧ vs.length ≤ sizeLine ∧ Reps K F ds vs
  oi : ∀ (i : Nat) (C : Addr × Addr) (fs : List (Str × D)), ρ[i]? = some (.oi C fs) → ∃ (p dx : Addr) (vs : List (Str × V)), σ[i]? = some (some (.ref p)) ∧ H p = some (.ins C.1 dx vs) ∧ F p = none ∧ RepF K F fs vs ∧ p = C.2
  od : ∀ (i : Nat) (kvs : List (List Key × D)), ρ[i]? = some (.od kvs) → ∃ (p : Addr) (vs : List (List Key × V)), σ[i]? = some (some (.ref p)) ∧ H p = some (.dT vs) ∧ F p = none ∧ RepT K F kvs vs
  inj : ∀ (i j : Nat) (s t : Sl) (v : V), ρ[i]? = some s → s.own = true → ρ[j]? = some t → t.own = true → σ[i]? = some (some v) → σ[j]? = some (some v) → i = j
theorem Rl.go {K : PySem.W.Frag} {ρ : Env'} {σ : L2.St} {F : Fz} {H : Hp} {F' : Fz} {H' : Hp} (r : Rl K ρ σ F H) (g : Go F H F' H') : Rl K ρ σ F' H' where
  len := r.len
  fh := g.fh
  sh := fun i d e => let ⟨v, h1, h2⟩ := r.sh i d e; ⟨v, h1, h2.mono g.ff⟩
  ow := fun i ds e => let ⟨p, vs, h1, h2, h3, h4, h5⟩ := r.ow i ds e; ⟨p, vs, h1, g.hh _ _ h2, g.nn p h3 (by rw [h2]; exact fun z => nomatch z), h4, h5.mono g.ff⟩
  oi := fun i C fs e => let ⟨p, dx, vs, h1, h2, h3, h5, h6⟩ := r.oi i C fs e; ⟨p, dx, vs, h1, g.hh _ _ h2, g.nn p h3 (by rw [h2]; exact fun z => nomatch z), h5.mono g.ff, h6⟩
  od := fun i kvs e => let ⟨p, vs, h1, h2, h3, h5⟩ := r.od i kvs e; ⟨p, vs, h1, g.hh _ _ h2, g.nn p h3 (by rw [h2]; exact fun z => nomatch z), h5.mono g.ff⟩
  inj := r.inj
/-- within a def: F0, H0 its entry; what it owns is new -/
structure Ent (K : PySem.W.Frag) (F0 : Fz) (H0 : Hp) (ρ : Env') (σ : L2.St) (F : Fz) (H : Hp) : Prop where
  rl : Rl K ρ σ F H
  go : Go F0 H0 F H
  new : ∀ (i : Nat) (s : Sl) (p : Addr), ρ[i]? = some s → s.own = true → σ[i]? = some (some (.ref p)) → H0 p = none
theorem Ent.step {K : PySem.W.Frag} {F0 : Fz} {H0 : Hp} {ρ : Env'} {σ : L2.St} {F : Fz} {H : Hp} {F' : Fz} {H' : Hp} (r : Ent K F0 H0 ρ σ F H) (g : Go F H F' H') : Ent K F0 H0 ρ σ F' H' :=
  ⟨r.rl.go g, r.go.trans g, r.new⟩

/-- read for a moment: a tree that is frozen, or a list of one's own -/
def Pk (K : PySem.W.Frag) (F : Fz) (H : Hp) (d : D) (v : V) : Prop :=
  Rep K F d v ∨ ∃ (p : Addr) (vs : List V) (ds : List D), d = .lst ds ∧ v = .ref p ∧ H p = some (.lst vs) ∧ vs.length ≤ sizeLine ∧ Reps K F ds vs ∧ F p = none
theorem Pk.go {K : PySem.W.Frag} {F : Fz} {H : Hp} {F' : Fz} {H' : Hp} {d : D} {v : V} (p : Pk K F H d v) (g : Go F H F' H') : Pk K F' H' d v :=
  p.elim (fun r => .inl (r.mono g.ff)) fun ⟨p, vs, ds, h1, h2, h3, h4, h5, h6⟩ => .inr ⟨p, vs, ds, h1, h2, g.hh _ _ h3, h4, h5.mono g.ff, g.nn p h6 (ne_some h3)⟩
theorem Pk.rep {K : PySem.W.Frag} {F : Fz} {H : Hp} {d : D} {v : V} (p : Pk K F H d v) (e : Same F H) : Rep K (F.up H e) d v := by
  have z : SameF F (F.up H e) := ⟨e, fun _ _ => rfl⟩
  rcases p with r | ⟨p, vs, ds, rfl, rfl, h3, h4, h5, h6⟩
  · exact r.mono z
  · exact .lst h3 (F.wf p h6) h4 (h5.mono z)
/-- a list's places, a tuple's -/
theorem Pk.lst {K : PySem.W.Frag} {F : Fz} {H : Hp} {ds : List D} {v : V} (p : Pk K F H (.lst ds) v) (e : Same F H) : ∃ (p : Addr) (vs : List V), v = .ref p ∧ H p = some (.lst vs) ∧ vs.length ≤ sizeLine ∧ Reps K F ds vs := by
  rcases p with r | ⟨p, vs, es, q, rfl, h3, h4, h5, h6⟩
  · cases r with
    | lst s _ l r => exact ⟨_, _, rfl, e _ _ s, l, r⟩
  · cases q; exact ⟨p, vs, rfl, h3, h4, h5⟩
theorem Pk.mu {K : PySem.W.Frag} {F : Fz} {H : Hp} {ds : List D} {v : V} (p : Pk K F H (.mu ds) v) (e : Same F H) : ∃ (p : Addr) (vs : List V), v = .ref p ∧ H p = some (.lst vs) ∧ vs.length ≤ sizeLine ∧ Reps K F ds vs := by
  rcases p with r | ⟨p, vs, es, q, rfl, h3, h4, h5⟩
  · cases r with
    | mu s _ l r => exact ⟨_, _, rfl, e _ _ s, l, r⟩
  · cases q
theorem Pk.tup {K : PySem.W.Frag} {F : Fz} {H : Hp} {ds : List D} {v : V} (p : Pk K F H (.tup ds) v) (e : Same F H) : ∃ (p : Addr) (vs : List V), v = .ref p ∧ SqT K H p vs ∧ vs.length ≤ sizeLine ∧ Reps K F ds vs := by
  rcases p with r | ⟨p, vs, es, q, rfl, h3, h4, h5⟩
  · cases r with
    | tup s l r => exact ⟨_, _, rfl, SqT.of (e _ _ s), l, r⟩
  · cases q
theorem Pk.frl {K : PySem.W.Frag} {F : Fz} {H : Hp} {ds : List D} {v : V} (p : Pk K F H (.frl ds) v) (e : Same F H) : ∃ (p : Addr) (vs : List V), v = .ref p ∧ SqL K H p vs ∧ vs.length ≤ sizeLine ∧ Reps K F ds vs := by
  rcases p with r | ⟨p, vs, es, q, rfl, h3, h4, h5⟩
  · cases r with
    | frl s l r => exact ⟨_, _, rfl, same_seqL e (same_seqL F.kh_same s), l, r⟩
  · cases q
theorem Pk.int {K : PySem.W.Frag} {F : Fz} {H : Hp} {i : Int} {v : V} (p : Pk K F H (.int i) v) : v = .int i := by
  rcases p with r | ⟨p, vs, es, q, rfl, h3, h4, h5⟩
  · cases r; rfl
  · cases q
theorem Pk.bl {K : PySem.W.Frag} {F : Fz} {H : Hp} {i : Bool} {v : V} (p : Pk K F H (.bl i) v) : v = .bl i := by
  rcases p with r | ⟨p, vs, es, q, rfl, h3, h4, h5⟩
  · cases r; rfl
  · cases q
theorem Pk.str {K : PySem.W.Frag} {F : Fz} {H : Hp} {i : Str} {v : V} (p : Pk K F H (.str i) v) : v = .str i := by
  rcases p with r | ⟨p, vs, es, q, rfl, h3, h4, h5⟩
  · cases r; rfl
  · cases q
/-- how an exception lies: an instance of its class -/
inductive XRep (K : PySem.W.Frag) (F : Fz) (H : Hp) : D → Value → Option Addr → Prop
  | bare (C : Addr) : XRep K F H (.ins C []) (.ref C) none
  | full {C dx : Addr} {fvs : List (Str × V)} {fs : List (Str × D)} : fs ≠ [] → H dx = some (.xd fvs) → RepF K F fs fvs → XRep K F H (.ins C fs) (.ref C) (some dx)

/-! ### what a tree is worth as data, for == -/
mutual
def D.py : D → PyData
  | .non => .none
  | .bl b => .bool b
  | .int i => .int i
  | .str x => .str x
  | .tup ds => .tuple (D.pys ds)
  | .lst ds => .list (D.pys ds)
  | .mu ds => .list (D.pys ds)
  | .frl ds => .list (D.pys ds)
  | .ty _ => .none
  | .cls _ => .none
  | .ins _ _ => .none
  | .dic _ => .none
  | .ob _ => .none
def D.pys : List D → List PyData
  | [] => []
  | d :: ds => D.py d :: D.pys ds
end
mutual
/-- None, truths, ints, texts, and lists and tuples of these -/
def D.flat : D → Bool
  | .non => true
  | .bl _ => true
  | .int _ => true
  | .str _ => true
  | .tup ds => D.flats ds
  | .lst ds => D.flats ds
  | .mu ds => D.flats ds
  | .frl ds => D.flats ds
  | .ty _ => false
  | .cls _ => false
  | .ins _ _ => false
  | .dic _ => false
  | .ob _ => false
def D.flats : List D → Bool
  | [] => true
  | d :: ds => D.flat d && D.flats ds
end
mutual
theorem Rep.dp {K : PySem.W.Frag} {H : Fz} : ∀ {d : D} {v : V}, Rep K H d v → d.flat = true → Dp K H.h v d.py
  | _, _, .non, _ => by unfold D.py; exact .non
  | _, _, .bl b, _ => by unfold D.py; exact .bl b
  | _, _, .int i, _ => by unfold D.py; exact .int i
  | _, _, .str x, _ => by unfold D.py; exact .str x
  | _, _, .tup s l r, h => by unfold D.py; unfold D.flat at h; exact .tup (SqT.of s) (Reps.dp r h)
  | _, _, .lst s _ l r, h => by unfold D.py; unfold D.flat at h; exact .lst (SqL.of s) (Reps.dp r h)
  | _, _, .mu s _ l r, h => by unfold D.py; unfold D.flat at h; exact .lst (SqL.of s) (Reps.dp r h)
  | _, _, .frl s l r, h => by unfold D.py; unfold D.flat at h; exact .lst (same_seqL H.kh_same s) (Reps.dp r h)
  | _, _, .ty n, h => by unfold D.flat at h; cases h
  | _, _, .cls n, h => by unfold D.flat at h; cases h
  | _, _, .ins s r, h => by unfold D.flat at h; cases h
  | _, _, .dic s r, h => by unfold D.flat at h; cases h
  | _, _, .ob v, h => by unfold D.flat at h; cases h
theorem Reps.dp {K : PySem.W.Frag} {H : Fz} : ∀ {d : List D} {v : List V}, Reps K H d v → D.flats d = true → DpAll K H.h v (D.pys d)
  | _, _, .nil, _ => by unfold D.pys; exact .nil
  | _, _, .cons r s, h => by
    unfold D.pys; unfold D.flats at h; rw [Bool.and_eq_true] at h
    exact .cons (Rep.dp r h.1) (Reps.dp s h.2)
end
end Dl

/-! The D-layer, part 2: expressions. A reading takes the names' trees, what is wanted of the value, what is wanted of an exception. -/
namespace Dl
open PySem PySem.Spec
open PyProof.Rows L2
abbrev EQ := D → Prop
abbrev TD := Env' → EQ → EQ → Prop
abbrev TDs := Env' → (List D → Prop) → EQ → Prop
abbrev TDb := Env' → (Bool → Prop) → EQ → Prop
/-- what is wanted of an exception, met at these names and heaps -/
def XP (K : PySem.W.Frag) (W : WX) (σ : L2.St) (F : Fz) (H : Hp) (E : EQ) : Prop :=
  ∀ (x : D) (cls : Value) (dx : Option Addr) (F' : Fz) (H' : Hp), Go F H F' H' → XRep K F' H' x cls dx → E x → W cls dx σ H'
theorem XP.go {K : PySem.W.Frag} {W : WX} {σ : L2.St} {F : Fz} {H : Hp} {F1 : Fz} {H1 : Hp} {E : EQ} (h : XP K W σ F H E) (g : Go F H F1 H1) : XP K W σ F1 H1 E :=
  fun x cls dx F' H' g' r e => h x cls dx F' H' (g.trans g') r e
/-- an expression -/
structure RE (X : Cx) (W : WX) (e : Expr) (t : TD) : Prop where
  run : ∃ te, PE X e te ∧ ∀ (ρ : Env') (σ : L2.St) (F : Fz) (H : Hp) (Qd E : EQ) (Q : VK), Rl X.K ρ σ F H → XP X.K W σ F H E →
    (∀ d v F' H', Go F H F' H' → Rep X.K F' d v → Qd d → Q v H') → t ρ Qd E → te σ H Q
/-- an expression that is read for a moment -/
structure RP (X : Cx) (W : WX) (e : Expr) (t : TD) : Prop where
  run : ∃ te, PE X e te ∧ ∀ (ρ : Env') (σ : L2.St) (F : Fz) (H : Hp) (Qd E : EQ) (Q : VK), Rl X.K ρ σ F H → XP X.K W σ F H E →
    (∀ d v F' H', Go F H F' H' → Pk X.K F' H' d v → Qd d → Q v H') → t ρ Qd E → te σ H Q
/-- arguments -/
structure RA (X : Cx) (W : WX) (es : List Expr) (t : TDs) : Prop where
  run : ∃ ta, PA X es ta ∧ ∀ (ρ : Env') (σ : L2.St) (F : Fz) (H : Hp) (Qd : List D → Prop) (E : EQ) (Q : List V → Hp → Prop), Rl X.K ρ σ F H → XP X.K W σ F H E →
    (∀ ds vs F' H', Go F H F' H' → Reps X.K F' ds vs → Qd ds → Q vs H') → t ρ Qd E → ta σ H Q
inductive Pks (K : PySem.W.Frag) (F : Fz) (H : Hp) : List D → List V → Prop
  | nil : Pks K F H [] []
  | cons {d : D} {v : V} {ds : List D} {vs : List V} : Pk K F H d v → Pks K F H ds vs → Pks K F H (d :: ds) (v :: vs)
theorem Pks.go {K : PySem.W.Frag} {F : Fz} {H : Hp} {F' : Fz} {H' : Hp} (g : Go F H F' H') : ∀ {ds : List D} {vs : List V}, Pks K F H ds vs → Pks K F' H' ds vs
  | _, _, .nil => .nil
  | _, _, .cons p q => .cons (p.go g) (Pks.go g q)
/-- arguments that are read for a moment -/
structure RPA (X : Cx) (W : WX) (es : List Expr) (t : TDs) : Prop where
  run : ∃ ta, PA X es ta ∧ ∀ (ρ : Env') (σ : L2.St) (F : Fz) (H : Hp) (Qd : List D → Prop) (E : EQ) (Q : List V → Hp → Prop), Rl X.K ρ σ F H → XP X.K W σ F H E →
    (∀ ds vs F' H', Go F H F' H' → Pks X.K F' H' ds vs → Qd ds → Q vs H') → t ρ Qd E → ta σ H Q
/-- tests -/
structure RT (X : Cx) (W : WX) (e : Expr) (t : TDb) : Prop where
  run : ∃ tt, PT X e tt ∧ ∀ (ρ : Env') (σ : L2.St) (F : Fz) (H : Hp) (Qd : Bool → Prop) (E : EQ) (Q : Bool → Hp → Prop), Rl X.K ρ σ F H → XP X.K W σ F H E →
    (∀ b F' H', Go F H F' H' → Qd b → Q b H') → t ρ Qd E → tt σ H Q
structure RW (X : Cx) (W : WX) (e : Expr) (t : TDb) : Prop where
  run : ∃ tt, PW X e tt ∧ ∀ (ρ : Env') (σ : L2.St) (F : Fz) (H : Hp) (Qd : Bool → Prop) (E : EQ) (Q : Bool → Hp → Prop), Rl X.K ρ σ F H → XP X.K W σ F H E →
    (∀ b F' H', Go F H F' H' → Qd b → Q b H') → t ρ Qd E → tt σ H Q
section
variable {X : Cx} {W : WX} {e a b c : Expr} {es : List Expr} {t ta tb tc : TD} {ts : TDs} {pos : Pos}
theorem RE.p (h : RE X W e t) : RP X W e t := by
  obtain ⟨te, h1, h2⟩ := h.run
  exact ⟨te, h1, fun ρ σ F H Qd E Q r x k q => h2 ρ σ F H Qd E Q r x (fun d v F' H' g rp qd => k d v F' H' g (.inl rp) qd) q⟩
/-! ### names and constants -/
def dVar (i : Nat) : TD := fun ρ Q _ => match ρ[i]? with
  | some (.sh d) => Q d
  | _ => False
def dVarP (i : Nat) : TD := fun ρ Q _ => match ρ[i]? with
  | some (.sh d) => Q d
  | some (.ow ds) => Q (.lst ds)
  | _ => False
def dC (d : D) : TD := fun _ Q _ => Q d
theorem re_var (i : Nat) {x : Str} (hN : X.N[i]? = some x := by rfl) (hv : Vis X.env.scope x := by first | exact Or.inl rfl | exact Or.inr (Or.inl rfl) | exact Or.inr (Or.inr rfl)) (hd : (x == ("__debug__" : Str)) = false := by decide) (hcd : (x == ("__classdict__" : Str)) = false := by decide) : RE X W (.Name x pos) (dVar i) := by
  refine ⟨tVar i, pe_var hN hv hd hcd, fun ρ σ F H Qd E Q r xp k q => ?_⟩
  unfold dVar at q
  split at q
  · rename_i d e
    obtain ⟨v, h1, h2⟩ := r.sh i d e
    exact ⟨v, h1, k d v F H (.refl r.fh) h2 q⟩
  · exact q.elim
theorem rp_var (i : Nat) {x : Str} (hN : X.N[i]? = some x := by rfl) (hv : Vis X.env.scope x := by first | exact Or.inl rfl | exact Or.inr (Or.inl rfl) | exact Or.inr (Or.inr rfl)) (hd : (x == ("__debug__" : Str)) = false := by decide) (hcd : (x == ("__classdict__" : Str)) = false := by decide) : RP X W (.Name x pos) (dVarP i) := by
  refine ⟨tVar i, pe_var hN hv hd hcd, fun ρ σ F H Qd E Q r xp k q => ?_⟩
  unfold dVarP at q
  split at q
  · rename_i d e
    obtain ⟨v, h1, h2⟩ := r.sh i d e
    exact ⟨v, h1, k d v F H (.refl r.fh) (.inl h2) q⟩
  · rename_i ds e
    obtain ⟨p, vs, h1, h2, h3, h4, h5⟩ := r.ow i ds e
    exact ⟨_, h1, k _ _ F H (.refl r.fh) (.inr ⟨p, vs, ds, rfl, rfl, h2, h4, h5, h3⟩) q⟩
  · exact q.elim
theorem re_int {i j} : RE X W (.Constant (.int i) j pos) (dC (.int i)) := ⟨_, pe_int, fun ρ σ F H Qd E Q r xp k q => k _ _ F H (.refl r.fh) (.int i) q⟩
theorem re_bl {i j} : RE X W (.Constant (.bool i) j pos) (dC (.bl i)) := ⟨_, pe_bl, fun ρ σ F H Qd E Q r xp k q => k _ _ F H (.refl r.fh) (.bl i) q⟩
theorem re_str {i j} : RE X W (.Constant (.str i) j pos) (dC (.str i)) := ⟨_, pe_str, fun ρ σ F H Qd E Q r xp k q => k _ _ F H (.refl r.fh) (.str i) q⟩
/-- a name of the module: an int, a text, a class -/
def GlobD : D → Value → Prop
  | .int i, u => ∃ t, u = .int i t
  | .str x, u => ∃ t, u = .str x t
  | .cls C, u => u = .ref C
  | .ty n, u => u = .type n
  | _, _ => False
theorem re_glob {x : Str} {d : D} {u : Value} (hm : X.mg x = some u) (r : GlobD d u) (hg : Gl X x := by rfl) (hd : (x == ("__debug__" : Str)) = false := by decide) : RE X W (.Name x pos) (dC d) := by
  cases d with
  | int i => exact ⟨_, pe_glob (v := .int i) hg hm r hd, fun ρ σ F H Qd E Q r xp k q => k _ _ F H (.refl r.fh) (.int i) q⟩
  | str i => exact ⟨_, pe_glob (v := .str i) hg hm r hd, fun ρ σ F H Qd E Q r xp k q => k _ _ F H (.refl r.fh) (.str i) q⟩
  | cls i => exact ⟨_, pe_glob (v := .ref i) hg hm r hd, fun ρ σ F H Qd E Q r xp k q => k _ _ F H (.refl r.fh) (.cls i) q⟩
  | ty i => exact ⟨_, pe_glob (v := .ty i) hg hm r hd, fun ρ σ F H Qd E Q r xp k q => k _ _ F H (.refl r.fh) (.ty i) q⟩
  | _ => exact r.elim
/-- a built-in type as a value -/
theorem re_ty {x : Str} {n : String} (hm : X.mg x = none) (hv : bootBuiltins x = some (.type n)) (hg : Gl X x := by rfl) (hn : x ≠ "__name__" := by decide) (hd : (x == ("__debug__" : Str)) = false := by decide) : RE X W (.Name x pos) (dC (.ty n)) :=
  ⟨_, pe_bltn (v := .ty n) hg hm hv rfl hn hd, fun ρ σ F H Qd E Q r xp k q => k _ _ F H (.refl r.fh) (.ty n) q⟩

/-! ### operators -/
/-- an operator by trees -/
abbrev KD := D → D → EQ → Prop
def OpD (X : Cx) (f : Value → Value → Sem Value) (k : KD) : Prop :=
  ∃ r, OpR X f r ∧ ∀ (x y : D) (vx vy : V) (F : Fz) (H : Hp) (Qd : EQ) (Q : VK), Same F H → Pk X.K F H x vx → Pk X.K F H y vy →
    (∀ d v F' H', Go F H F' H' → Rep X.K F' d v → Qd d → Q v H') → k x y Qd → r vx vy H Q
def dOp (k : KD) (ta tb : TD) : TD := fun ρ Q E => ta ρ (fun x => tb ρ (fun y => k x y Q) E) E
theorem op_core {r : R2} {k : KD} {te1 te2 : TE} {ρ : Env'} {σ : L2.St} {F : Fz} {H : Hp} {Qd E : EQ} {Q : VK}
    (ha : ∀ (ρ : Env') (σ : L2.St) (F : Fz) (H : Hp) (Qd E : EQ) (Q : VK), Rl X.K ρ σ F H → XP X.K W σ F H E → (∀ d v F' H', Go F H F' H' → Pk X.K F' H' d v → Qd d → Q v H') → ta ρ Qd E → te1 σ H Q)
    (hb : ∀ (ρ : Env') (σ : L2.St) (F : Fz) (H : Hp) (Qd E : EQ) (Q : VK), Rl X.K ρ σ F H → XP X.K W σ F H E → (∀ d v F' H', Go F H F' H' → Pk X.K F' H' d v → Qd d → Q v H') → tb ρ Qd E → te2 σ H Q)
    (ho : ∀ (x y : D) (vx vy : V) (F : Fz) (H : Hp) (Qd : EQ) (Q : VK), Same F H → Pk X.K F H x vx → Pk X.K F H y vy → (∀ d v F' H', Go F H F' H' → Rep X.K F' d v → Qd d → Q v H') → k x y Qd → r vx vy H Q)
    (rl : Rl X.K ρ σ F H) (xp : XP X.K W σ F H E) (kk : ∀ d v F' H', Go F H F' H' → Rep X.K F' d v → Qd d → Q v H') (q : dOp k ta tb ρ Qd E) : tOp r te1 te2 σ H Q := by
  refine ha ρ σ F H _ E _ rl xp (fun x vx F1 H1 g1 px q1 => ?_) q
  refine hb ρ σ F1 H1 _ E _ (rl.go g1) (xp.go g1) (fun y vy F2 H2 g2 py q2 => ?_) q1
  exact ho x y vx vy F2 H2 Qd Q g2.fh (px.go g2) py (fun d v F' H' g r qd => kk d v F' H' ((g1.trans g2).trans g) r qd) q2
theorem re_op {op : Operator} {k : KD} (ho : OpD X (binaryOp op) k) (ha : RP X W a ta) (hb : RP X W b tb) : RE X W (.BinOp a op b pos) (dOp k ta tb) := by
  obtain ⟨r, o1, o2⟩ := ho
  obtain ⟨te1, a1, a2⟩ := ha.run
  obtain ⟨te2, b1, b2⟩ := hb.run
  exact ⟨_, pe_op o1 a1 b1, fun ρ σ F H Qd E Q rl xp kk q => op_core a2 b2 o2 rl xp kk q⟩
theorem re_cmp {op : CmpOp} {k : KD} (ho : OpD X (compareOp op) k) (ha : RP X W a ta) (hb : RP X W b tb) (hm : behindInMarks op b = false := by first | exact nomark _ | rfl) : RE X W (.Compare a [op] [b] pos) (dOp k ta tb) := by
  obtain ⟨r, o1, o2⟩ := ho
  obtain ⟨te1, a1, a2⟩ := ha.run
  obtain ⟨te2, b1, b2⟩ := hb.run
  exact ⟨_, pe_cmpR o1 a1 b1 hm, fun ρ σ F H Qd E Q rl xp kk q => op_core a2 b2 o2 rl xp kk q⟩
/-- where a truth is wanted -/
def asB (Q : Bool → Prop) : EQ
  | .bl c => Q c
  | _ => False
def dTest (t : TD) : TDb := fun ρ Q E => t ρ (asB Q) E
theorem asB_inv {Q : Bool → Prop} {d : D} (h : asB Q d) : ∃ c, d = .bl c ∧ Q c := by
  cases d <;> first | exact ⟨_, rfl, h⟩ | exact False.elim h
theorem rt_cmp {op : CmpOp} {k : KD} (ho : OpD X (compareOp op) k) (ha : RP X W a ta) (hb : RP X W b tb) (hm : behindInMarks op b = false := by first | exact nomark _ | rfl) : RT X W (.Compare a [op] [b] pos) (dTest (dOp k ta tb)) := by
  obtain ⟨r, o1, o2⟩ := ho
  obtain ⟨te1, a1, a2⟩ := ha.run
  obtain ⟨te2, b1, b2⟩ := hb.run
  refine ⟨_, pt_cmpR o1 a1 b1 hm, fun ρ σ F H Qd E Q rl xp kk q => op_core a2 b2 o2 rl xp (fun d v F' H' g rp qd => ?_) q⟩
  obtain ⟨c, rfl, qc⟩ := asB_inv qd
  cases rp
  exact ⟨c, rfl, kk c F' H' g qc⟩
/-- a value that is a truth, as a test -/
theorem rt_val (h : RP X W e t) (he : ∀ whole, isTrue e X.env whole = (do let v ← whole; standAt e.pos; holding [v] (truthy v)) := by intro _; rfl) : RT X W e (dTest t) := by
  obtain ⟨te, h1, h2⟩ := h.run
  refine ⟨_, pt_val h1 he, fun ρ σ F H Qd E Q rl xp kk q => h2 ρ σ F H _ E _ rl xp (fun d v F' H' g rp qd => ?_) q⟩
  obtain ⟨c, rfl, qc⟩ := asB_inv qd
  cases rp.bl
  exact ⟨c, rfl, kk c F' H' g qc⟩
def dNot (t : TDb) : TDb := fun ρ Q E => t ρ (fun c => Q (!c)) E
theorem rt_not {t : TDb} (h : RT X W a t) : RT X W (.UnaryOp .Not a pos) (dNot t) := by
  obtain ⟨te, h1, h2⟩ := h.run
  exact ⟨_, pt_not h1, fun ρ σ F H Qd E Q rl xp kk q => h2 ρ σ F H _ E _ rl xp (fun c F' H' g qd => kk _ F' H' g qd) q⟩
variable {tA tB : TDb} {rest : List Expr}
theorem RW.toT {t : TDb} (h : RW X W e t) : RT X W e t := by
  obtain ⟨te, h1, h2⟩ := h.run
  exact ⟨te, h1.pt, h2⟩
def dAnd (t u : TDb) : TDb := fun ρ Q E => t ρ (fun c => ifP c (u ρ Q E) (Q false)) E
def dOr (t u : TDb) : TDb := fun ρ Q E => t ρ (fun c => ifP c (Q true) (u ρ Q E)) E
theorem rw_and1 (h : RT X W a tA) : RW X W (.BoolOp .And [a] pos) tA := by
  obtain ⟨te, h1, h2⟩ := h.run
  exact ⟨te, pw_and1 h1, h2⟩
theorem rw_or1 (h : RT X W a tA) : RW X W (.BoolOp .Or [a] pos) tA := by
  obtain ⟨te, h1, h2⟩ := h.run
  exact ⟨te, pw_or1 h1, h2⟩
theorem rw_and (ha : RT X W a tA) (hb : RW X W (.BoolOp .And (b :: rest) pos) tB) : RW X W (.BoolOp .And (a :: b :: rest) pos) (dAnd tA tB) := by
  obtain ⟨te, h1, h2⟩ := ha.run
  obtain ⟨te', h1', h2'⟩ := hb.run
  refine ⟨_, pw_and h1 h1', fun ρ σ F H Qd E Q rl xp kk q => h2 ρ σ F H _ E _ rl xp (fun c F' H' g qd => ?_) q⟩
  cases c with
  | true => exact h2' ρ σ F' H' Qd E Q (rl.go g) (xp.go g) (fun c F2 H2 g2 q2 => kk c F2 H2 (g.trans g2) q2) qd
  | false => exact kk _ F' H' g qd
theorem rw_or (ha : RT X W a tA) (hb : RW X W (.BoolOp .Or (b :: rest) pos) tB) : RW X W (.BoolOp .Or (a :: b :: rest) pos) (dOr tA tB) := by
  obtain ⟨te, h1, h2⟩ := ha.run
  obtain ⟨te', h1', h2'⟩ := hb.run
  refine ⟨_, pw_or h1 h1', fun ρ σ F H Qd E Q rl xp kk q => h2 ρ σ F H _ E _ rl xp (fun c F' H' g qd => ?_) q⟩
  cases c with
  | false => exact h2' ρ σ F' H' Qd E Q (rl.go g) (xp.go g) (fun c F2 H2 g2 q2 => kk c F2 H2 (g.trans g2) q2) qd
  | true => exact kk _ F' H' g qd
/-- and, or, not as values: all but the last are truths -/
def dAndV (ta tb : TD) : TD := fun ρ Q E => ta ρ (asB fun c => ifP c (tb ρ Q E) (Q (.bl false))) E
def dNotV (ta : TD) : TD := fun ρ Q E => ta ρ (asB fun c => Q (.bl (!c))) E
theorem re_one {op} (h : RE X W a t) : RE X W (.BoolOp op [a] pos) t := by
  obtain ⟨te, h1, h2⟩ := h.run
  exact ⟨te, pe_one h1, h2⟩
theorem re_and (ha : RP X W a ta) (hb : RE X W (.BoolOp .And (b :: rest) pos) tb) : RE X W (.BoolOp .And (a :: b :: rest) pos) (dAndV ta tb) := by
  obtain ⟨te, h1, h2⟩ := ha.run
  obtain ⟨te', h1', h2'⟩ := hb.run
  refine ⟨_, pe_and h1 h1', fun ρ σ F H Qd E Q rl xp kk q => h2 ρ σ F H _ E _ rl xp (fun d v F' H' g rp qd => ?_) q⟩
  obtain ⟨c, rfl, qc⟩ := asB_inv qd
  cases rp.bl
  refine ⟨c, rfl, ?_⟩
  cases c with
  | true => exact h2' ρ σ F' H' Qd E Q (rl.go g) (xp.go g) (fun c v F2 H2 g2 r2 q2 => kk c v F2 H2 (g.trans g2) r2 q2) qc
  | false => exact kk _ _ F' H' g (.bl false) qc
theorem re_not (ha : RP X W a ta) : RE X W (.UnaryOp .Not a pos) (dNotV ta) := by
  obtain ⟨te, h1, h2⟩ := ha.run
  refine ⟨_, pe_not h1, fun ρ σ F H Qd E Q rl xp kk q => h2 ρ σ F H _ E _ rl xp (fun d v F' H' g rp qd => ?_) q⟩
  obtain ⟨c, rfl, qc⟩ := asB_inv qd
  cases rp.bl
  exact ⟨c, rfl, kk _ _ F' H' g (.bl _) qc⟩
end

/-! ### arguments, displays -/
section
variable {X : Cx} {W : WX} {e : Expr} {es : List Expr} {t : TD} {ts : TDs} {pos : Pos}
def dNil : TDs := fun _ Q _ => Q []
def dCons (t : TD) (u : TDs) : TDs := fun ρ Q E => t ρ (fun x => u ρ (fun xs => Q (x :: xs)) E) E
theorem ra_nil : RA X W [] dNil := ⟨_, pa_nil, fun ρ σ F H Qd E Q rl xp kk q => kk [] [] F H (.refl rl.fh) .nil q⟩
theorem ra_cons (h : RE X W e t) (hr : RA X W es ts) (hs : starEach (e :: es) X.env = (false, eval e X.env) :: starEach es X.env := by rfl) : RA X W (e :: es) (dCons t ts) := by
  obtain ⟨te, h1, h2⟩ := h.run
  obtain ⟨te1, a1, a2⟩ := hr.run
  refine ⟨_, pa_cons h1 a1 hs, fun ρ σ F H Qd E Q rl xp kk q => h2 ρ σ F H _ E _ rl xp (fun d v F1 H1 g1 r1 q1 => ?_) q⟩
  exact a2 ρ σ F1 H1 _ E _ (rl.go g1) (xp.go g1) (fun ds vs F2 H2 g2 r2 q2 => kk _ _ F2 H2 (g1.trans g2) (.cons (r1.mono g2.ff) r2) q2) q1
theorem rpa_nil : RPA X W [] dNil := ⟨_, pa_nil, fun ρ σ F H Qd E Q rl xp kk q => kk [] [] F H (.refl rl.fh) .nil q⟩
theorem rpa_cons (h : RP X W e t) (hr : RPA X W es ts) (hs : starEach (e :: es) X.env = (false, eval e X.env) :: starEach es X.env := by rfl) : RPA X W (e :: es) (dCons t ts) := by
  obtain ⟨te, h1, h2⟩ := h.run
  obtain ⟨te1, a1, a2⟩ := hr.run
  refine ⟨_, pa_cons h1 a1 hs, fun ρ σ F H Qd E Q rl xp kk q => h2 ρ σ F H _ E _ rl xp (fun d v F1 H1 g1 r1 q1 => ?_) q⟩
  exact a2 ρ σ F1 H1 _ E _ (rl.go g1) (xp.go g1) (fun ds vs F2 H2 g2 r2 q2 => kk _ _ F2 H2 (g1.trans g2) (.cons (r1.go g2) r2) q2) q1
theorem Go.lst {K : PySem.W.Frag} {F : Fz} {H : Hp} {ds : List D} {vs : List V} (e : Same F H) (r : Reps K F ds vs) (z : vs.length ≤ sizeLine) {p : Addr} (np : H p = none) : Go F H (F.upd p (.lst vs)) (upd H p (.lst vs)) ∧ Rep K (F.upd p (.lst vs)) (.lst ds) (.ref p) :=
  ⟨.alloc e np, .lst upd_same (F.upd_p p _) z (r.mono (same_updF (e.free np)))⟩
theorem Go.tup {K : PySem.W.Frag} {F : Fz} {H : Hp} {ds : List D} {vs : List V} (e : Same F H) (r : Reps K F ds vs) (z : vs.length ≤ sizeLine) {p : Addr} (np : H p = none) : Go F H (F.upd p (.tup vs)) (upd H p (.tup vs)) ∧ Rep K (F.upd p (.tup vs)) (.tup ds) (.ref p) :=
  ⟨.alloc e np, .tup upd_same z (r.mono (same_updF (e.free np)))⟩
/-- lists and tuples of fewer than so many things -/
def few (ds : List D) : Prop := ds.length ≤ 16777216
theorem few_line {K : PySem.W.Frag} {F : Fz} {ds : List D} {vs : List V} (r : Reps K F ds vs) (h : few ds) : vs.length ≤ sizeLine := by
  rw [r.length, sizeLine_eq]; exact h
def dTup (ts : TDs) : TD := fun ρ Q E => ts ρ (fun ds => few ds ∧ Q (.tup ds)) E
def dLst (ts : TDs) : TD := fun ρ Q E => ts ρ (fun ds => few ds ∧ Q (.lst ds)) E
theorem re_tup {j} (h : RA X W es ts) : RE X W (.Tuple es j pos) (dTup ts) := by
  obtain ⟨te, h1, h2⟩ := h.run
  refine ⟨_, pe_tup h1, fun ρ σ F H Qd E Q rl xp kk q => h2 ρ σ F H _ E _ rl xp (fun ds vs F1 H1 g1 r1 q1 => ⟨few_line r1 q1.1, fun p np => ?_⟩) q⟩
  obtain ⟨g, r⟩ := Go.tup g1.fh r1 (few_line r1 q1.1) np
  exact kk _ _ _ _ (g1.trans g) r q1.2
theorem re_lst (h : RA X W es ts) : RE X W (.List es pos) (dLst ts) := by
  obtain ⟨te, h1, h2⟩ := h.run
  refine ⟨_, pe_lst h1, fun ρ σ F H Qd E Q rl xp kk q => h2 ρ σ F H _ E _ rl xp (fun ds vs F1 H1 g1 r1 q1 => ⟨few_line r1 q1.1, fun p np => ?_⟩) q⟩
  obtain ⟨g, r⟩ := Go.lst g1.fh r1 (few_line r1 q1.1) np
  exact kk _ _ _ _ (g1.trans g) r q1.2
end

/-! ### operators of ints, texts, lists, tuples -/
section
variable {X : Cx}
theorem opd_rI {f : Value → Value → Sem Value} {C : Int → Int → Prop} {g : Int → Int → V} {k : KD} (o : OpR X f (rI C g))
    (h : ∀ (x y : D) (Q : EQ), k x y Q → ∃ i j d, x = .int i ∧ y = .int j ∧ C i j ∧ (∀ K F, Rep K F d (g i j)) ∧ Q d) : OpD X f k := by
  refine ⟨_, o, fun x y vx vy F H Qd Q e px py kk q => ?_⟩
  obtain ⟨i, j, d, rfl, rfl, c, r, q⟩ := h x y Qd q
  exact ⟨i, j, px.int, py.int, c, kk _ _ F H (.refl e) (r _ _) q⟩
theorem opd_rI0 {f : Value → Value → Sem Value} {g : Int → Int → V} {k : KD} (o : OpR X f (rI0 g))
    (h : ∀ (x y : D) (Q : EQ), k x y Q → ∃ i j d, x = .int i ∧ y = .int j ∧ (∀ K F, Rep K F d (g i j)) ∧ Q d) : OpD X f k := by
  refine ⟨_, o, fun x y vx vy F H Qd Q e px py kk q => ?_⟩
  obtain ⟨i, j, d, rfl, rfl, r, q⟩ := h x y Qd q
  exact ⟨i, j, px.int, py.int, kk _ _ F H (.refl e) (r _ _) q⟩
theorem OpD.or {f : Value → Value → Sem Value} {k k' : KD} (h : OpD X f k) (h' : OpD X f k') : OpD X f (fun x y Q => k x y Q ∨ k' x y Q) := by
  obtain ⟨r, o1, o2⟩ := h
  obtain ⟨r', o1', o2'⟩ := h'
  refine ⟨_, o1.or o1', fun x y vx vy F H Qd Q e px py kk q => ?_⟩
  exact q.elim (fun z => .inl (o2 x y vx vy F H Qd Q e px py kk z)) fun z => .inr (o2' x y vx vy F H Qd Q e px py kk z)
theorem OpD.imp {f : Value → Value → Sem Value} {k k' : KD} (h : OpD X f k) (i : ∀ x y Q, k' x y Q → k x y Q) : OpD X f k' := by
  obtain ⟨r, o1, o2⟩ := h
  exact ⟨r, o1, fun x y vx vy F H Qd Q e px py kk q => o2 x y vx vy F H Qd Q e px py kk (i _ _ _ q)⟩
/-- two ints, then -/
def k2 (g : Int → Int → EQ → Prop) : KD := fun x y Q => match x, y with
  | .int i, .int j => g i j Q
  | _, _ => False
theorem k2_inv {g : Int → Int → EQ → Prop} {x y : D} {Q : EQ} (h : k2 g x y Q) : ∃ i j, x = .int i ∧ y = .int j ∧ g i j Q := by
  cases x <;> cases y <;> first | exact ⟨_, _, rfl, rfl, h⟩ | exact False.elim h
def kAddI : KD := k2 fun i j Q => Q (.int (i + j))
def kAddS : KD := fun x y Q => match x, y with
  | .str a, .str b => a.length + b.length ≤ 16777216 ∧ Q (.str (a ++ b))
  | _, _ => False
def kAddL : KD := fun x y Q => match x, y with
  | .lst a, .lst b => few (a ++ b) ∧ Q (.lst (a ++ b))
  | .lst a, .mu b => few (a ++ b) ∧ Q (.lst (a ++ b))
  | .mu a, .lst b => few (a ++ b) ∧ Q (.lst (a ++ b))
  | .mu a, .mu b => few (a ++ b) ∧ Q (.lst (a ++ b))
  | _, _ => False
theorem Pk.anyL {K : PySem.W.Frag} {F : Fz} {H : Hp} {ds : List D} {d : D} {v : V} (p : Pk K F H d v) (h : d = .lst ds ∨ d = .mu ds) (e : Same F H) : ∃ (p : Addr) (vs : List V), v = .ref p ∧ H p = some (.lst vs) ∧ vs.length ≤ sizeLine ∧ Reps K F ds vs := by
  rcases h with rfl | rfl
  · exact p.lst e
  · exact p.mu e
def kAddT : KD := fun x y Q => match x, y with
  | .tup a, .tup b => a ≠ [] ∧ few (a ++ b) ∧ Q (.tup (a ++ b))
  | _, _ => False
def kAdd : KD := fun x y Q => match x, y with
  | .int i, .int j => Q (.int (i + j))
  | .str a, .str b => a.length + b.length ≤ 16777216 ∧ Q (.str (a ++ b))
  | .lst a, .lst b => few (a ++ b) ∧ Q (.lst (a ++ b))
  | .lst a, .mu b => few (a ++ b) ∧ Q (.lst (a ++ b))
  | .mu a, .lst b => few (a ++ b) ∧ Q (.lst (a ++ b))
  | .mu a, .mu b => few (a ++ b) ∧ Q (.lst (a ++ b))
  | .tup a, .tup b => a ≠ [] ∧ few (a ++ b) ∧ Q (.tup (a ++ b))
  | _, _ => False
theorem opd_addI : OpD X (binaryOp .Add) kAddI := opd_rI0 op_add fun x y Q h => by
  obtain ⟨i, j, rfl, rfl, q⟩ := k2_inv h
  exact ⟨i, j, _, rfl, rfl, fun _ _ => .int _, q⟩
theorem opd_addS : OpD X (binaryOp .Add) kAddS := by
  refine ⟨_, op_add_str, fun x y vx vy F H Qd Q e px py kk q => ?_⟩
  obtain ⟨a, b, rfl, rfl, z, q⟩ : ∃ a b, x = .str a ∧ y = .str b ∧ a.length + b.length ≤ 16777216 ∧ Qd (.str (a ++ b)) := by
    cases x <;> cases y <;> first | exact ⟨_, _, rfl, rfl, q.1, q.2⟩ | exact False.elim q
  exact ⟨a, b, px.str, py.str, by rw [sizeLine_eq]; exact z, kk _ _ F H (.refl e) (.str _) q⟩
theorem opd_addL : OpD X (binaryOp .Add) kAddL := by
  refine ⟨_, op_cat, fun x y vx vy F H Qd Q e px py kk q => ?_⟩
  obtain ⟨a, b, hx, hy, z, q⟩ : ∃ a b, (x = .lst a ∨ x = .mu a) ∧ (y = .lst b ∨ y = .mu b) ∧ few (a ++ b) ∧ Qd (.lst (a ++ b)) := by
    cases x <;> cases y <;> first | exact ⟨_, _, .inl rfl, .inl rfl, q.1, q.2⟩ | exact ⟨_, _, .inl rfl, .inr rfl, q.1, q.2⟩ | exact ⟨_, _, .inr rfl, .inl rfl, q.1, q.2⟩ | exact ⟨_, _, .inr rfl, .inr rfl, q.1, q.2⟩ | exact False.elim q
  obtain ⟨p, vs, rfl, h1, l1, r1⟩ := px.anyL hx e
  obtain ⟨p', vs', rfl, h1', l1', r1'⟩ := py.anyL hy e
  have rr := r1.append r1'
  have zz := few_line rr z
  refine ⟨p, p', vs, vs', rfl, rfl, h1, h1', by rw [← List.length_append]; exact zz, fun l nl => ?_⟩
  obtain ⟨g, r⟩ := Go.lst e rr zz nl
  exact kk _ _ _ _ g r q
theorem opd_addT : OpD X (binaryOp .Add) kAddT := by
  refine ⟨_, op_catT, fun x y vx vy F H Qd Q e px py kk q => ?_⟩
  obtain ⟨a, b, rfl, rfl, ne, z, q⟩ : ∃ a b, x = .tup a ∧ y = .tup b ∧ a ≠ [] ∧ few (a ++ b) ∧ Qd (.tup (a ++ b)) := by
    cases x <;> cases y <;> first | exact ⟨_, _, rfl, rfl, q.1, q.2⟩ | exact False.elim q
  obtain ⟨p, vs, rfl, h1, l1, r1⟩ := px.tup e
  obtain ⟨p', vs', rfl, h1', l1', r1'⟩ := py.tup e
  have rr := r1.append r1'
  have zz := few_line rr z
  have nv : vs ≠ [] := fun h => ne (by rw [h] at r1; cases r1; rfl)
  refine ⟨p, p', vs, vs', rfl, rfl, h1, h1', nv, by rw [← List.length_append]; exact zz, fun en => ?_, fun nn l nl => ?_⟩
  · subst en
    cases r1'
    rw [List.append_nil] at q rr
    exact kk _ _ F H (.refl e) (by rcases px with px | ⟨_, _, _, z, _⟩; exact px; cases z) q
  · obtain ⟨g, r⟩ := Go.tup e rr zz nl
    exact kk _ _ _ _ g r q
theorem opd_add : OpD X (binaryOp .Add) kAdd := ((opd_addI.or opd_addS).or (opd_addL.or opd_addT)).imp fun x y Q h => by
  cases x <;> cases y <;> first | exact .inl (.inl h) | exact .inl (.inr h) | exact .inr (.inl h) | exact .inr (.inr h) | exact False.elim h
def kSub : KD := k2 fun i j Q => Q (.int (i - j))
theorem opd_sub : OpD X (binaryOp .Sub) kSub := opd_rI0 op_sub fun x y Q h => by
  obtain ⟨i, j, rfl, rfl, q⟩ := k2_inv h
  exact ⟨i, j, _, rfl, rfl, fun _ _ => .int _, q⟩
/-- a product that the machine makes: below 2 ^ 27 bits -/
def mulOk (i j : Int) : Prop := IntMulOk i j
theorem op_mulG : OpR X (binaryOp .Mult) (rI mulOk fun i j => .int (i * j)) := opI fun _ _ _ _ _ _ _ hc q => mul_int q hc
def kMulI : KD := k2 fun i j Q => mulOk i j ∧ Q (.int (i * j))
def kMulL : KD := fun x y Q => match x, y with
  | .lst a, .int k => k ≤ 1000000 ∧ -1000000 ≤ k ∧ few (List.replicate k.toNat a).flatten ∧ Q (.lst (List.replicate k.toNat a).flatten)
  | _, _ => False
theorem opd_mulI : OpD X (binaryOp .Mult) kMulI := opd_rI op_mulG fun x y Q h => by
  obtain ⟨i, j, rfl, rfl, c, q⟩ := k2_inv h
  exact ⟨i, j, _, rfl, rfl, c, fun _ _ => .int _, q⟩
theorem flat_len {α : Type} (xs : List α) : ∀ k : Nat, (List.replicate k xs).flatten.length = xs.length * k
  | 0 => rfl
  | k + 1 => by rw [List.replicate_succ, List.flatten_cons, List.length_append, flat_len xs k, Nat.mul_succ]; omega
theorem opd_mulL : OpD X (binaryOp .Mult) kMulL := by
  refine ⟨_, op_rep, fun x y vx vy F H Qd Q e px py kk q => ?_⟩
  obtain ⟨a, k, rfl, rfl, z1, z2, z, q⟩ : ∃ a k, x = .lst a ∧ y = .int k ∧ k ≤ 1000000 ∧ -1000000 ≤ k ∧ few (List.replicate k.toNat a).flatten ∧ Qd (.lst (List.replicate k.toNat a).flatten) := by
    cases x <;> cases y <;> first | exact ⟨_, _, rfl, rfl, q.1, q.2.1, q.2.2.1, q.2.2.2⟩ | exact False.elim q
  obtain ⟨p, vs, rfl, h1, l1, r1⟩ := px.lst e
  cases py.int
  have rr := r1.rep k.toNat
  have zz := few_line rr z
  refine ⟨p, k, vs, rfl, rfl, h1, by omega, by omega, by rw [← flat_len]; exact zz, fun l nl => ?_⟩
  obtain ⟨g, r⟩ := Go.lst e rr zz nl
  exact kk _ _ _ _ g r q
def kMul : KD := fun x y Q => match x, y with
  | .int i, .int j => mulOk i j ∧ Q (.int (i * j))
  | .lst a, .int k => k ≤ 1000000 ∧ -1000000 ≤ k ∧ few (List.replicate k.toNat a).flatten ∧ Q (.lst (List.replicate k.toNat a).flatten)
  | _, _ => False
theorem opd_mul : OpD X (binaryOp .Mult) kMul := (opd_mulI.or opd_mulL).imp fun x y Q h => by
  cases x <;> cases y <;> first | exact .inl h | exact .inr h | exact False.elim h
/-- a floor: the divisor not nought, below 9,000 bits -/
def divOk (j : Int) : Prop := j ≠ 0 ∧ j.natAbs.log2 < 9000
theorem op_divG : OpR X (binaryOp .FloorDiv) (rI (fun _ j => divOk j) fun i j => .int (i.fdiv j)) :=
  opI fun i j _ _ _ _ _ hc q => floordiv_int hc.1 q (.inl (PyProof.noPylong_of_log2 hc.2))
def kDiv : KD := k2 fun i j Q => divOk j ∧ Q (.int (i.fdiv j))
theorem opd_div : OpD X (binaryOp .FloorDiv) kDiv := opd_rI op_divG fun x y Q h => by
  obtain ⟨i, j, rfl, rfl, c, q⟩ := k2_inv h
  exact ⟨i, j, _, rfl, rfl, c, fun _ _ => .int _, q⟩
def kMod : KD := k2 fun i j Q => j ≠ 0 ∧ Q (.int (i.fmod j))
theorem opd_mod : OpD X (binaryOp .Mod) kMod := opd_rI op_modN fun x y Q h => by
  obtain ⟨i, j, rfl, rfl, c, q⟩ := k2_inv h
  exact ⟨i, j, _, rfl, rfl, c, fun _ _ => .int _, q⟩
def kPow : KD := k2 fun i j Q => (0 ≤ j ∧ j ≤ 1000000 ∧ i.natAbs < 2 ^ 64) ∧ Q (.int (i ^ j.toNat))
theorem opd_pow : OpD X (binaryOp .Pow) kPow := opd_rI op_pow fun x y Q h => by
  obtain ⟨i, j, rfl, rfl, c, q⟩ := k2_inv h
  exact ⟨i, j, _, rfl, rfl, c, fun _ _ => .int _, q⟩
/-! comparisons -/
def kLt : KD := k2 fun i j Q => Q (.bl (decide (i < j)))
def kLe : KD := k2 fun i j Q => Q (.bl (decide (i ≤ j)))
def kGt : KD := k2 fun i j Q => Q (.bl (decide (j < i)))
def kGe : KD := k2 fun i j Q => Q (.bl (decide (j ≤ i)))
theorem opd_lt : OpD X (compareOp .Lt) kLt := opd_rI0 op_lt fun x y Q h => by
  obtain ⟨i, j, rfl, rfl, q⟩ := k2_inv h
  exact ⟨i, j, _, rfl, rfl, fun _ _ => .bl _, q⟩
theorem opd_le : OpD X (compareOp .LtE) kLe := opd_rI0 op_le fun x y Q h => by
  obtain ⟨i, j, rfl, rfl, q⟩ := k2_inv h
  exact ⟨i, j, _, rfl, rfl, fun _ _ => .bl _, q⟩
theorem opd_gt : OpD X (compareOp .Gt) kGt := opd_rI0 op_gt fun x y Q h => by
  obtain ⟨i, j, rfl, rfl, q⟩ := k2_inv h
  exact ⟨i, j, _, rfl, rfl, fun _ _ => .bl _, q⟩
theorem opd_ge : OpD X (compareOp .GtE) kGe := opd_rI0 op_ge fun x y Q h => by
  obtain ⟨i, j, rfl, rfl, q⟩ := k2_inv h
  exact ⟨i, j, _, rfl, rfl, fun _ _ => .bl _, q⟩
/-- flat data, not deep -/
def plain (d : D) : Prop := d.flat = true ∧ SeqAt.shaped d.py = true
def kEqG : KD := fun x y Q => plain x ∧ plain y ∧ Q (.bl (PyData.eqv x.py y.py))
def kNeG : KD := fun x y Q => plain x ∧ plain y ∧ Q (.bl (!PyData.eqv x.py y.py))
def kEqI : KD := fun x y Q => match x, y with
  | .int i, .int j => Q (.bl (decide (i = j)))
  | .str i, .str j => Q (.bl (decide (i = j)))
  | .bl i, .bl j => Q (.bl (decide (i = j)))
  | _, _ => False
def kNeI : KD := fun x y Q => match x, y with
  | .int i, .int j => Q (.bl (!decide (i = j)))
  | .str i, .str j => Q (.bl (!decide (i = j)))
  | .bl i, .bl j => Q (.bl (!decide (i = j)))
  | _, _ => False
theorem opd_eqI : OpD X (compareOp .Eq) kEqI := by
  refine ⟨_, op_eq, fun x y vx vy F H Qd Q e px py kk q => ?_⟩
  cases x <;> cases y <;> first | exact False.elim q | skip
  · cases px.bl; cases py.bl; exact ⟨rfl, kk _ _ F H (.refl e) (by rw [show ∀ a b : Bool, decide (V.bl a = V.bl b) = decide (a = b) from fun a b => by cases a <;> cases b <;> rfl]; exact .bl _) q⟩
  · cases px.int; cases py.int; exact ⟨rfl, kk _ _ F H (.refl e) (by rw [dec_int, Bool.beq_eq_decide_eq]; exact .bl _) q⟩
  · cases px.str; cases py.str; exact ⟨rfl, kk _ _ F H (.refl e) (by rw [dec_str, Bool.beq_eq_decide_eq]; exact .bl _) q⟩
theorem opd_neI : OpD X (compareOp .NotEq) kNeI := by
  refine ⟨_, op_ne, fun x y vx vy F H Qd Q e px py kk q => ?_⟩
  cases x <;> cases y <;> first | exact False.elim q | skip
  · cases px.bl; cases py.bl; exact ⟨rfl, kk _ _ F H (.refl e) (by rw [show ∀ a b : Bool, decide (V.bl a = V.bl b) = decide (a = b) from fun a b => by cases a <;> cases b <;> rfl]; exact .bl _) q⟩
  · cases px.int; cases py.int; exact ⟨rfl, kk _ _ F H (.refl e) (by rw [dec_int, Bool.beq_eq_decide_eq]; exact .bl _) q⟩
  · cases px.str; cases py.str; exact ⟨rfl, kk _ _ F H (.refl e) (by rw [dec_str, Bool.beq_eq_decide_eq]; exact .bl _) q⟩
theorem opd_eqG (hu : X.A.units + 64 < cLine) : OpD X (compareOp .Eq) kEqG := by
  refine ⟨_, op_eqD hu, fun x y vx vy F H Qd Q e px py kk ⟨q1, q2, q⟩ => ?_⟩
  exact ⟨_, _, (px.rep e).dp q1.1, (py.rep e).dp q2.1, q1.2, q2.2, kk _ _ F H (.refl e) (.bl _) q⟩
theorem opd_neG (hu : X.A.units + 64 < cLine) : OpD X (compareOp .NotEq) kNeG := by
  refine ⟨_, op_neD hu, fun x y vx vy F H Qd Q e px py kk ⟨q1, q2, q⟩ => ?_⟩
  exact ⟨_, _, (px.rep e).dp q1.1, (py.rep e).dp q2.1, q1.2, q2.2, kk _ _ F H (.refl e) (.bl _) q⟩
def kEq : KD := fun x y Q => match x, y with
  | .int i, .int j => Q (.bl (decide (i = j)))
  | .str i, .str j => Q (.bl (decide (i = j)))
  | .bl i, .bl j => Q (.bl (decide (i = j)))
  | x, y => plain x ∧ plain y ∧ Q (.bl (PyData.eqv x.py y.py))
def kNe : KD := fun x y Q => match x, y with
  | .int i, .int j => Q (.bl (!decide (i = j)))
  | .str i, .str j => Q (.bl (!decide (i = j)))
  | .bl i, .bl j => Q (.bl (!decide (i = j)))
  | x, y => plain x ∧ plain y ∧ Q (.bl (!PyData.eqv x.py y.py))
theorem opd_eq (hu : X.A.units + 64 < cLine) : OpD X (compareOp .Eq) kEq := (opd_eqI.or (opd_eqG hu)).imp fun x y Q h => by
  cases x <;> cases y <;> first | exact .inl h | exact .inr h
theorem opd_ne (hu : X.A.units + 64 < cLine) : OpD X (compareOp .NotEq) kNe := (opd_neI.or (opd_neG hu)).imp fun x y Q h => by
  cases x <;> cases y <;> first | exact .inl h | exact .inr h
end
end Dl

/-! The D-layer, part 3: subscripts, slices, built-in calls, defs called, fields, methods, new instances. -/
namespace Dl
open PySem PySem.Spec
open PyProof.Rows L2
section
variable {X : Cx} {W : WX} {e a b c : Expr} {es : List Expr} {t ta tb tc : TD} {ts : TDs} {pos : Pos}
/-! ### places -/
/-- what wants a thing, of what may be none -/
def asO {α : Type} (Q : α → Prop) : Option α → Prop
  | some d => Q d
  | none => False
theorem asO_inv {α : Type} {Q : α → Prop} {o : Option α} (h : asO Q o) : ∃ d, o = some d ∧ Q d := by
  cases o with
  | none => exact h.elim
  | some d => exact ⟨d, rfl, h⟩
theorem reps_at {K : PySem.W.Frag} {F : Fz} {ds : List D} {vs : List V} {i : Int} {d : D} (r : Reps K F ds vs) (h : atI ds i = some d) : ∃ v, atI vs i = some v ∧ Rep K F d v := by
  unfold atI at h ⊢
  rw [r.length]
  cases q : ixN ds.length i with
  | none => rw [q] at h; cases h
  | some j => rw [q] at h; exact r.get h
def kIx : KD := fun x y Q => match x, y with
  | .lst ds, .int i => asO Q (atI ds i)
  | .frl ds, .int i => asO Q (atI ds i)
  | .tup ds, .int i => asO Q (atI ds i)
  | .mu ds, .int i => asO Q (atI ds i)
  | _, _ => False
def IxD (X : Cx) (k : KD) : Prop :=
  ∃ r, IxR X r ∧ ∀ (x y : D) (vx vy : V) (F : Fz) (H : Hp) (Qd : EQ) (Q : VK), Same F H → Pk X.K F H x vx → Pk X.K F H y vy →
    (∀ d v F' H', Go F H F' H' → Rep X.K F' d v → Qd d → Q v H') → k x y Qd → r vx vy H Q
theorem ixd_seq : IxD X kIx := by
  refine ⟨_, ix_seq, fun x y vx vy F H Qd Q e px py kk q => ?_⟩
  cases x <;> cases y <;> first | exact False.elim q | skip
  · cases py.int
    obtain ⟨d, hd, qd⟩ := asO_inv q
    obtain ⟨p, vs, rfl, h1, l1, r1⟩ := px.tup e
    obtain ⟨v, h2, r2⟩ := reps_at r1 hd
    exact .inr (.inl ⟨p, vs, _, v, rfl, rfl, h1, h2, kk _ _ F H (.refl e) r2 qd⟩)
  · cases py.int
    obtain ⟨d, hd, qd⟩ := asO_inv q
    obtain ⟨p, vs, rfl, h1, l1, r1⟩ := px.lst e
    obtain ⟨v, h2, r2⟩ := reps_at r1 hd
    exact .inl ⟨p, vs, _, v, rfl, rfl, SqL.of h1, h2, kk _ _ F H (.refl e) r2 qd⟩
  · cases py.int
    obtain ⟨d, hd, qd⟩ := asO_inv q
    obtain ⟨p, vs, rfl, h1, l1, r1⟩ := px.frl e
    obtain ⟨v, h2, r2⟩ := reps_at r1 hd
    exact .inl ⟨p, vs, _, v, rfl, rfl, h1, h2, kk _ _ F H (.refl e) r2 qd⟩
  · cases py.int
    obtain ⟨d, hd, qd⟩ := asO_inv q
    obtain ⟨p, vs, rfl, h1, l1, r1⟩ := px.mu e
    obtain ⟨v, h2, r2⟩ := reps_at r1 hd
    exact .inl ⟨p, vs, _, v, rfl, rfl, SqL.of h1, h2, kk _ _ F H (.refl e) r2 qd⟩
theorem re_ix {k : KD} (ho : IxD X k) (ha : RP X W a ta) (hb : RP X W b tb) (hs : PlainIx b := by exact fun _ _ => rfl) : RE X W (.Subscript a b pos) (dOp k ta tb) := by
  obtain ⟨r, o1, o2⟩ := ho
  obtain ⟨te1, a1, a2⟩ := ha.run
  obtain ⟨te2, b1, b2⟩ := hb.run
  exact ⟨_, pe_ix o1 a1 b1 hs, fun ρ σ F H Qd E Q rl xp kk q => op_core a2 b2 o2 rl xp kk q⟩

/-! ### slices -/
abbrev TDo := Env' → (Option Int → Prop) → EQ → Prop
structure RO (X : Cx) (W : WX) (e : Option Expr) (t : TDo) : Prop where
  run : ∃ to, PO X e to ∧ ∀ (ρ : Env') (σ : L2.St) (F : Fz) (H : Hp) (Qd : Option Int → Prop) (E : EQ) (Q : Option Int → Hp → Prop), Rl X.K ρ σ F H → XP X.K W σ F H E →
    (∀ o F' H', Go F H F' H' → Qd o → Q o H') → t ρ Qd E → to σ H Q
def dNoPart : TDo := fun _ Q _ => Q none
def asI (Q : Int → Prop) : EQ
  | .int i => Q i
  | _ => False
theorem asI_inv {Q : Int → Prop} {d : D} (h : asI Q d) : ∃ i, d = .int i ∧ Q i := by
  cases d <;> first | exact ⟨_, rfl, h⟩ | exact False.elim h
def dPart (t : TD) : TDo := fun ρ Q E => t ρ (asI fun i => Q (some i)) E
theorem ro_none : RO X W none dNoPart := ⟨_, po_none, fun ρ σ F H Qd E Q rl xp kk q => kk _ F H (.refl rl.fh) q⟩
theorem ro_some (h : RP X W e t) : RO X W (some e) (dPart t) := by
  obtain ⟨te, h1, h2⟩ := h.run
  refine ⟨_, po_some h1, fun ρ σ F H Qd E Q rl xp kk q => h2 ρ σ F H _ E _ rl xp (fun d v F1 H1 g1 r1 q1 => ?_) q⟩
  obtain ⟨i, rfl, qi⟩ := asI_inv q1
  cases r1.int
  exact ⟨i, rfl, kk _ F1 H1 g1 qi⟩
def cut {α : Type} (xs : List α) (lo hi : Option Int) : List α := (xs.drop (HT.sIx xs.length 0 lo)).take (HT.sIx xs.length xs.length hi - HT.sIx xs.length 0 lo)
theorem reps_cut {K : PySem.W.Frag} {F : Fz} {ds : List D} {vs : List V} (lo hi : Option Int) (r : Reps K F ds vs) : Reps K F (cut ds lo hi) (cutV vs lo hi) := by
  unfold cut cutV
  rw [r.length]
  exact (r.drop _).take _
def kSl : D → Option Int → Option Int → EQ → Prop := fun x lo hi Q => match x with
  | .lst ds => Q (.lst (cut ds lo hi))
  | .frl ds => Q (.lst (cut ds lo hi))
  | .mu ds => Q (.lst (cut ds lo hi))
  | .tup ds => ¬ (HT.sIx ds.length 0 lo = 0 ∧ HT.sIx ds.length ds.length hi = ds.length) ∧ Q (.tup (cut ds lo hi))
  | .str z => z.length ≤ 16777216 ∧ Q (.str (cutS z lo hi))
  | _ => False
def dSl (t : TD) (tl th : TDo) : TD := fun ρ Q E => t ρ (fun x => tl ρ (fun l => th ρ (fun u => kSl x l u Q) E) E) E
theorem re_slice {lo hi : Option Expr} {p2 : Pos} {tl th : TDo} (he : RP X W e t) (hl : RO X W lo tl) (hh : RO X W hi th) : RE X W (.Subscript e (.Slice lo hi none p2) pos) (dSl t tl th) := by
  obtain ⟨te, h1, h2⟩ := he.run
  obtain ⟨te1, a1, a2⟩ := hl.run
  obtain ⟨te2, b1, b2⟩ := hh.run
  refine ⟨_, pe_slice ((sl_list.or sl_tup).or sl_str) h1 a1 b1, fun ρ σ F H Qd E Q rl xp kk q => h2 ρ σ F H _ E _ rl xp (fun x vx F1 H1 g1 px q1 => ?_) q⟩
  refine a2 ρ σ F1 H1 _ E _ (rl.go g1) (xp.go g1) (fun l F2 H2 g2 q2 => ?_) q1
  refine b2 ρ σ F2 H2 _ E _ ((rl.go g1).go g2) ((xp.go g1).go g2) (fun u F3 H3 g3 q3 => ?_) q2
  have g := (g1.trans g2).trans g3
  have px3 := (px.go g2).go g3
  cases x <;> first | exact False.elim q3 | skip
  · cases px3.str
    exact .inr ⟨_, rfl, by rw [sizeLine_eq]; exact q3.1, kk _ _ F3 H3 g (.str _) q3.2⟩
  · obtain ⟨p, vs, rfl, hs, l1, r1⟩ := px3.tup g3.fh
    have z1 := Nat.le_trans (cutV_length vs l u) l1
    refine .inl (.inr ⟨p, vs, rfl, hs, by rw [r1.length]; exact q3.1, fun n nn => ?_⟩)
    obtain ⟨g4, r4⟩ := Go.tup g3.fh (reps_cut l u r1) z1 nn
    exact kk _ _ _ _ (g.trans g4) r4 q3.2
  · obtain ⟨p, vs, rfl, hs, l1, r1⟩ := px3.lst g3.fh
    have z1 := Nat.le_trans (cutV_length vs l u) l1
    refine .inl (.inl ⟨p, vs, rfl, SqL.of hs, fun n nn => ?_⟩)
    obtain ⟨g4, r4⟩ := Go.lst g3.fh (reps_cut l u r1) z1 nn
    exact kk _ _ _ _ (g.trans g4) r4 q3
  · obtain ⟨p, vs, rfl, hs, l1, r1⟩ := px3.frl g3.fh
    have z1 := Nat.le_trans (cutV_length vs l u) l1
    refine .inl (.inl ⟨p, vs, rfl, hs, fun n nn => ?_⟩)
    obtain ⟨g4, r4⟩ := Go.lst g3.fh (reps_cut l u r1) z1 nn
    exact kk _ _ _ _ (g.trans g4) r4 q3
  · obtain ⟨p, vs, rfl, hs, l1, r1⟩ := px3.mu g3.fh
    have z1 := Nat.le_trans (cutV_length vs l u) l1
    refine .inl (.inl ⟨p, vs, rfl, SqL.of hs, fun n nn => ?_⟩)
    obtain ⟨g4, r4⟩ := Go.lst g3.fh (reps_cut l u r1) z1 nn
    exact kk _ _ _ _ (g.trans g4) r4 q3

/-! ### built-in calls -/
abbrev KC := List D → EQ → Prop
def CallD (X : Cx) (f : Value) (k : KC) : Prop :=
  ∃ r, CallR X f r ∧ ∀ (ds : List D) (vs : List V) (F : Fz) (H : Hp) (Qd : EQ) (Q : VK), Same F H → Pks X.K F H ds vs →
    (∀ d v F' H', Go F H F' H' → Rep X.K F' d v → Qd d → Q v H') → k ds Qd → r vs H Q
def dCB (k : KC) (ts : TDs) : TD := fun ρ Q E => ts ρ (fun ds => k ds Q) E
theorem re_callB {id : String} {x : Str} {p : Pos} {k : KC} (hc : CallD X (.builtin id) k) (hm : X.mg x = none) (ha : RPA X W (e :: es) ts) (hg : Gl X x := by rfl) (hv : bootBuiltins x = some (.builtin id) := by decide +kernel)
    (hn : x ≠ "__name__" := by decide) (hdb : (x == ("__debug__" : Str)) = false := by decide)
    (he : starEach (e :: es) X.env = (false, eval e X.env) :: starEach es X.env := by rfl) (hpl : (backTo pos (starEach es X.env)).any (·.1) = false := by rfl) : RE X W (.Call (.Name x p) (e :: es) [] pos) (dCB k ts) := by
  obtain ⟨r, o1, o2⟩ := hc
  obtain ⟨te, h1, h2⟩ := ha.run
  exact ⟨_, pe_callB o1 hg hm hv h1 hn hdb he hpl, fun ρ σ F H Qd E Q rl xp kk q => h2 ρ σ F H _ E _ rl xp (fun ds vs F1 H1 g1 r1 q1 => o2 ds vs F1 H1 Qd Q g1.fh r1 (fun d v F' H' g rp qd => kk d v F' H' (g1.trans g) rp qd) q1) q⟩
theorem re_callTy {T : String} {x : Str} {p : Pos} {k : KC} (hc : CallD X (.type T) k) (hm : X.mg x = none) (ha : RPA X W (e :: es) ts) (hg : Gl X x := by rfl) (hv : bootBuiltins x = some (.type T) := by decide +kernel)
    (hn : x ≠ "__name__" := by decide) (hdb : (x == ("__debug__" : Str)) = false := by decide)
    (he : starEach (e :: es) X.env = (false, eval e X.env) :: starEach es X.env := by rfl) (hpl : (backTo pos (starEach es X.env)).any (·.1) = false := by rfl) : RE X W (.Call (.Name x p) (e :: es) [] pos) (dCB k ts) := by
  obtain ⟨r, o1, o2⟩ := hc
  obtain ⟨te, h1, h2⟩ := ha.run
  exact ⟨_, pe_callTy o1 hg hm hv h1 hn hdb he hpl, fun ρ σ F H Qd E Q rl xp kk q => h2 ρ σ F H _ E _ rl xp (fun ds vs F1 H1 g1 r1 q1 => o2 ds vs F1 H1 Qd Q g1.fh r1 (fun d v F' H' g rp qd => kk d v F' H' (g1.trans g) rp qd) q1) q⟩
theorem pks1 {K : PySem.W.Frag} {F : Fz} {H : Hp} {d : D} {vs : List V} (h : Pks K F H [d] vs) : ∃ v, vs = [v] ∧ Pk K F H d v := by
  cases h with
  | cons p q => cases q; exact ⟨_, rfl, p⟩
theorem pks2 {K : PySem.W.Frag} {F : Fz} {H : Hp} {d d' : D} {vs : List V} (h : Pks K F H [d, d'] vs) : ∃ v v', vs = [v, v'] ∧ Pk K F H d v ∧ Pk K F H d' v' := by
  cases h with
  | cons p q =>
    obtain ⟨v, rfl, p'⟩ := pks1 q
    exact ⟨_, _, rfl, p, p'⟩
def k1c (g : D → EQ → Prop) : KC := fun ds Q => match ds with
  | [d] => g d Q
  | _ => False
theorem k1c_inv {g : D → EQ → Prop} {ds : List D} {Q : EQ} (h : k1c g ds Q) : ∃ d, ds = [d] ∧ g d Q := by
  match ds, h with
  | [d], h => exact ⟨d, rfl, h⟩
def k2c (g : D → D → EQ → Prop) : KC := fun ds Q => match ds with
  | [d, e] => g d e Q
  | _ => False
theorem k2c_inv {g : D → D → EQ → Prop} {ds : List D} {Q : EQ} (h : k2c g ds Q) : ∃ d e, ds = [d, e] ∧ g d e Q := by
  match ds, h with
  | [d, e], h => exact ⟨d, e, rfl, h⟩
/-- len -/
def kLen : KC := k1c fun d Q => match d with
  | .lst ds => Q (.int ds.length)
  | .frl ds => Q (.int ds.length)
  | .mu ds => Q (.int ds.length)
  | .tup ds => Q (.int ds.length)
  | .str z => z.length ≤ 16777216 ∧ Q (.int z.length)
  | _ => False
theorem cd_len : CallD X (.builtin "len") kLen := by
  refine ⟨_, call_len_seq.or call_len_str, fun ds vs F H Qd Q e ps kk q => ?_⟩
  obtain ⟨d, rfl, q⟩ := k1c_inv q
  obtain ⟨v, rfl, pk⟩ := pks1 ps
  cases d <;> first | exact False.elim q | skip
  · cases pk.str
    exact .inr ⟨_, rfl, by rw [sizeLine_eq]; exact q.1, kk _ _ F H (.refl e) (.int _) q.2⟩
  · obtain ⟨p, ws, rfl, h1, l1, r1⟩ := pk.tup e
    exact .inl ⟨p, ws, rfl, .inr h1, kk _ _ F H (.refl e) (by rw [r1.length]; exact .int _) q⟩
  · obtain ⟨p, ws, rfl, h1, l1, r1⟩ := pk.lst e
    exact .inl ⟨p, ws, rfl, .inl (SqL.of h1), kk _ _ F H (.refl e) (by rw [r1.length]; exact .int _) q⟩
  · obtain ⟨p, ws, rfl, h1, l1, r1⟩ := pk.frl e
    exact .inl ⟨p, ws, rfl, .inl h1, kk _ _ F H (.refl e) (by rw [r1.length]; exact .int _) q⟩
  · obtain ⟨p, ws, rfl, h1, l1, r1⟩ := pk.mu e
    exact .inl ⟨p, ws, rfl, .inl (SqL.of h1), kk _ _ F H (.refl e) (by rw [r1.length]; exact .int _) q⟩
theorem cd_abs : CallD X (.builtin "abs") (k1c fun d Q => asI (fun i => Q (.int (if i < 0 then -i else i))) d) := by
  refine ⟨_, call_abs, fun ds vs F H Qd Q e ps kk q => ?_⟩
  obtain ⟨d, rfl, q⟩ := k1c_inv q
  obtain ⟨v, rfl, pk⟩ := pks1 ps
  obtain ⟨i, rfl, q⟩ := asI_inv q
  cases pk.int
  exact ⟨i, rfl, kk _ _ F H (.refl e) (.int _) q⟩
/-- the ints of a list of ints -/
def intsOf : List D → Option (List Int)
  | [] => some []
  | .int i :: ds => (intsOf ds).map (i :: ·)
  | _ :: _ => none
theorem intsOf_inv : ∀ {ds : List D} {ns : List Int}, intsOf ds = some ns → ds = ns.map D.int
  | [], ns, h => by cases h; rfl
  | d :: ds, ns, h => by
    cases d <;> first | cases h | skip
    rename_i i
    cases q : intsOf ds with
    | none => rw [show intsOf (.int i :: ds) = (intsOf ds).map (i :: ·) from rfl, q] at h; cases h
    | some ms =>
      rw [show intsOf (.int i :: ds) = (intsOf ds).map (i :: ·) from rfl, q] at h
      cases h
      rw [intsOf_inv q]; rfl
def blsOf : List D → Option (List Bool)
  | [] => some []
  | .bl i :: ds => (blsOf ds).map (i :: ·)
  | _ :: _ => none
theorem blsOf_map : ∀ ns : List Bool, blsOf (ns.map D.bl) = some ns
  | [] => rfl
  | n :: ns => by show (blsOf (ns.map D.bl)).map (n :: ·) = _; rw [blsOf_map ns]; rfl
theorem blsOf_inv : ∀ {ds : List D} {ns : List Bool}, blsOf ds = some ns → ds = ns.map D.bl
  | [], ns, h => by cases h; rfl
  | d :: ds, ns, h => by
    cases d <;> first | cases h | skip
    rename_i i
    cases q : blsOf ds with
    | none => rw [show blsOf (.bl i :: ds) = (blsOf ds).map (i :: ·) from rfl, q] at h; cases h
    | some ms =>
      rw [show blsOf (.bl i :: ds) = (blsOf ds).map (i :: ·) from rfl, q] at h
      cases h
      rw [blsOf_inv q]; rfl
def onL (g : List D → Prop) : D → Prop
  | .lst ds => g ds
  | _ => False
theorem onL_inv {g : List D → Prop} {d : D} (h : onL g d) : ∃ ds, d = .lst ds ∧ g ds := by
  cases d <;> first | exact ⟨_, rfl, h⟩ | exact False.elim h
def kAll : KC := k1c fun d Q => onL (fun ds => asO (fun ns => Q (.bl (List.all ns id))) (blsOf ds)) d
theorem cd_all (hc : X.calm = true) : CallD X (.builtin "all") kAll := by
  refine ⟨_, cr_all hc, fun ds vs F H Qd Q e ps kk q => ?_⟩
  obtain ⟨d, rfl, q⟩ := k1c_inv q
  obtain ⟨v, rfl, pk⟩ := pks1 ps
  obtain ⟨xs, rfl, q⟩ := onL_inv q
  obtain ⟨ns, hn, q⟩ := asO_inv q
  obtain ⟨p, ws, rfl, h1, l1, r1⟩ := pk.lst e
  rw [blsOf_inv hn] at r1
  have z := r1.bls
  subst z
  exact ⟨p, ns, rfl, SqL.of h1, kk _ _ F H (.refl e) (.bl _) q⟩
/-- tuple(x), list(x) -/
def kTuple : KC := k1c fun d Q => match d with
  | .lst ds => Q (.tup ds)
  | .frl ds => Q (.tup ds)
  | .mu ds => Q (.tup ds)
  | .tup ds => Q (.tup ds)
  | _ => False
theorem cd_tuple : CallD X (.type "tuple") kTuple := by
  refine ⟨_, call_tuple_of, fun ds vs F H Qd Q e ps kk q => ?_⟩
  obtain ⟨d, rfl, q⟩ := k1c_inv q
  obtain ⟨v, rfl, pk⟩ := pks1 ps
  cases d <;> first | exact False.elim q | skip
  · obtain ⟨p, ws, rfl, h1, l1, r1⟩ := pk.tup e
    exact ⟨p, ws, rfl, .inr ⟨h1, kk _ _ F H (.refl e) (by rcases pk with pk | ⟨_, _, _, z, _⟩; exact pk; cases z) q⟩⟩
  · obtain ⟨p, ws, rfl, h1, l1, r1⟩ := pk.lst e
    refine ⟨p, ws, rfl, .inl ⟨SqL.of h1, fun n nn => ?_⟩⟩
    obtain ⟨g4, r4⟩ := Go.tup e r1 l1 nn
    exact kk _ _ _ _ g4 r4 q
  · obtain ⟨p, ws, rfl, h1, l1, r1⟩ := pk.frl e
    refine ⟨p, ws, rfl, .inl ⟨h1, fun n nn => ?_⟩⟩
    obtain ⟨g4, r4⟩ := Go.tup e r1 l1 nn
    exact kk _ _ _ _ g4 r4 q
  · obtain ⟨p, ws, rfl, h1, l1, r1⟩ := pk.mu e
    refine ⟨p, ws, rfl, .inl ⟨SqL.of h1, fun n nn => ?_⟩⟩
    obtain ⟨g4, r4⟩ := Go.tup e r1 l1 nn
    exact kk _ _ _ _ g4 r4 q
def kList : KC := k1c fun d Q => match d with
  | .lst ds => Q (.lst ds)
  | .frl ds => Q (.lst ds)
  | .mu ds => Q (.lst ds)
  | .tup ds => Q (.lst ds)
  | _ => False
theorem cd_list : CallD X (.type "list") kList := by
  refine ⟨_, call_list_of, fun ds vs F H Qd Q e ps kk q => ?_⟩
  obtain ⟨d, rfl, q⟩ := k1c_inv q
  obtain ⟨v, rfl, pk⟩ := pks1 ps
  cases d <;> first | exact False.elim q | skip
  · obtain ⟨p, ws, rfl, h1, l1, r1⟩ := pk.tup e
    refine ⟨p, ws, rfl, .inr h1, fun n nn => ?_⟩
    obtain ⟨g4, r4⟩ := Go.lst e r1 l1 nn
    exact kk _ _ _ _ g4 r4 q
  · obtain ⟨p, ws, rfl, h1, l1, r1⟩ := pk.lst e
    refine ⟨p, ws, rfl, .inl (SqL.of h1), fun n nn => ?_⟩
    obtain ⟨g4, r4⟩ := Go.lst e r1 l1 nn
    exact kk _ _ _ _ g4 r4 q
  · obtain ⟨p, ws, rfl, h1, l1, r1⟩ := pk.frl e
    refine ⟨p, ws, rfl, .inl h1, fun n nn => ?_⟩
    obtain ⟨g4, r4⟩ := Go.lst e r1 l1 nn
    exact kk _ _ _ _ g4 r4 q
  · obtain ⟨p, ws, rfl, h1, l1, r1⟩ := pk.mu e
    refine ⟨p, ws, rfl, .inl (SqL.of h1), fun n nn => ?_⟩
    obtain ⟨g4, r4⟩ := Go.lst e r1 l1 nn
    exact kk _ _ _ _ g4 r4 q
/-- str of an int -/
theorem cd_strI : CallD X (.type "str") (k1c fun d Q => asI (fun i => i.natAbs.log2 < 1920 ∧ Q (.str (toString i))) d) := by
  refine ⟨_, call_str_int, fun ds vs F H Qd Q e ps kk q => ?_⟩
  obtain ⟨d, rfl, q⟩ := k1c_inv q
  obtain ⟨v, rfl, pk⟩ := pks1 ps
  obtain ⟨i, rfl, q⟩ := asI_inv q
  cases pk.int
  exact ⟨i, rfl, q.1, kk _ _ F H (.refl e) (.str _) q.2⟩
end
end Dl

/-! The D-layer, part 4: isinstance, defs called, fields, methods. -/
namespace Dl
open PySem PySem.Spec
open PyProof.Rows L2
section
variable {X : Cx} {W : WX} {e a b c : Expr} {es : List Expr} {t ta tb tc : TD} {ts : TDs} {pos : Pos}
/-! ### isinstance -/
/-- a built-in type's name of a tree -/
def tyN : D → Option String
  | .non => some "NoneType"
  | .bl _ => some "bool"
  | .int _ => some "int"
  | .str _ => some "str"
  | .tup _ => some "tuple"
  | .lst _ => some "list"
  | .frl _ => some "list"
  | .dic _ => some "dict"
  | _ => none
/-- the same, of lists that may be changed one day too -/
def tyM : D → Option String
  | .mu _ => some "list"
  | d => tyN d
theorem tyx_of {K : PySem.W.Frag} {H : Fz} {d : D} {v : V} {n : String} (r : Rep K H d v) (h : tyM d = some n) : TyX K H.h v (.type n) := by
  cases r with
  | non => cases h; exact .base .non
  | bl b => cases h; exact .base (.bl b)
  | int i => cases h; exact .base (.int i)
  | str x => cases h; exact .base (.str x)
  | ty n => cases h
  | cls C => cases h
  | ob v => cases h
  | tup s l r =>
    cases h
    exact .base (.tup s)
  | lst s _ l r => cases h; exact .base (.lst s)
  | mu s _ l r => cases h; exact .base (.lst s)
  | frl s l r =>
    cases h
    rcases same_seqL H.kh_same s with (s | ⟨o, s⟩) | ⟨o, its, n, k, c, _⟩
    · exact .base (.lst s)
    · exact .base (.frz s)
    · exact .kList k c
  | ins s r => cases h
  | dic s r => cases h; exact .base (.dK s)
/-- whether a tree is of a built-in type, for the types that are asked for -/
def isB (x : D) (n : String) : Option Bool := (tyM x).bind fun m => kitB m n
/-- what isinstance asks of the text about a class of its own -/
structure InsTy (K : PySem.W.Frag) (C : Addr) : Prop where
  cl : Cls K C
  ha : PySem.W.findIn K (.ref C) "__class__" = some (some (.builtin "object.__class__"))
  hn : PySem.W.specialIn K (.builtin "object.__class__") "__get__" = some (some (.builtin "getset_descriptor.__get__"))
  htk : PySem.W.takesIn K (.builtin "object.__class__") = some true
  hm : PySem.W.mroIn K C (.type "object") = some true
def kIsi (K : PySem.W.Frag) : KC := k2c fun x c Q => match c with
  | .ty n => (match x with
    | .ins C _ => InsTy K C ∧ asO (fun b => Q (.bl b)) (PySem.W.kitOne K (.ref C) (.type n))
    | x => asO (fun b => Q (.bl b)) (isB x n))
  | .cls C' => (match x with
    | .ins C _ => InsTy K C ∧ asO (fun b => Q (.bl b)) (PySem.W.kitOne K (.ref C) (.ref C'))
    | x => asO (fun m => asO (fun b => Q (.bl b)) (PySem.W.kitOne K (.type m) (.ref C'))) (tyM x))
  | _ => False
theorem isi_run {K : PySem.W.Frag} {F : Fz} {H : Hp} {x c : D} {vx vc : V} {t u : Value} {b : Bool} {Qd : EQ} {Q : VK} (e : Same F H) (ty : TyX K H vx t) (cv : ClsV vc u) (k : PySem.W.kitOne K t u = some b)
    (kk : ∀ d v F' H', Go F H F' H' → Rep K F' d v → Qd d → Q v H') (q : Qd (.bl b)) : rIsi K [vx, vc] H Q := ⟨vx, vc, t, u, b, rfl, cv, ty, k, kk _ _ F H (.refl e) (.bl _) q⟩
theorem cd_isi {K : PySem.W.Frag} (hK : X.K = K := by rfl) : CallD X (.builtin "isinstance") (kIsi K) := by
  subst hK
  refine ⟨_, call_isi, fun ds vs F H Qd Q e ps kk q => ?_⟩
  obtain ⟨x, c, rfl, q⟩ := k2c_inv q
  obtain ⟨vx, vc, rfl, px, pc⟩ := pks2 ps
  have rx := px.rep e
  have rc := pc.rep e
  have base : ∀ {u : Value}, ClsV vc u → ∀ {m : String} {b : Bool}, tyM x = some m → PySem.W.kitOne X.K (.type m) u = some b → Qd (.bl b) → rIsi X.K [vx, vc] H Q := fun cv m b h1 h2 h3 => isi_run (x := x) (c := c) e (tyx_of rx h1) cv h2 kk h3
  have own : ∀ {u : Value}, ClsV vc u → ∀ {C : Addr} {fs : List (Str × D)} {b : Bool}, x = .ins C fs → InsTy X.K C → PySem.W.kitOne X.K (.ref C) u = some b → Qd (.bl b) → rIsi X.K [vx, vc] H Q := fun cv C fs b h1 i h2 h3 => by
    subst h1
    cases rx with
    | ins s r => exact isi_run (x := .ins C fs) (c := c) e (.base (.ins s i.cl i.ha i.hn i.htk i.hm)) cv h2 kk h3
  cases c <;> first | exact False.elim q | skip
  · cases rc
    rename_i n _
    have cv := ClsV.ty n
    by_cases hx : ∃ C fs, x = .ins C fs
    · obtain ⟨C, fs, rfl⟩ := hx
      obtain ⟨i, q⟩ := q
      obtain ⟨b, h1, h2⟩ := asO_inv q
      exact own cv rfl i h1 h2
    · have q' : asO (fun b => Qd (.bl b)) (isB x n) := by
        cases x <;> first | exact q | exact absurd ⟨_, _, rfl⟩ hx
      obtain ⟨b, h1, h2⟩ := asO_inv q'
      obtain ⟨m, h3, h4⟩ := Option.bind_eq_some_iff.mp h1
      exact base cv h3 (kit_ty h4) h2
  · cases rc
    rename_i C' _
    have cv := ClsV.own C'
    by_cases hx : ∃ C fs, x = .ins C fs
    · obtain ⟨C, fs, rfl⟩ := hx
      obtain ⟨i, q⟩ := q
      obtain ⟨b, h1, h2⟩ := asO_inv q
      exact own cv rfl i h1 h2
    · have q' : asO (fun m => asO (fun b => Qd (.bl b)) (PySem.W.kitOne X.K (.type m) (.ref C'))) (tyM x) := by
        cases x <;> first | exact q | exact absurd ⟨_, _, rfl⟩ hx
      obtain ⟨m, h1, h2⟩ := asO_inv q'
      obtain ⟨b, h3, h4⟩ := asO_inv h2
      exact base cv h1 h3 h4

/-! ### defs -/
/-- what a def promises, by trees: the arguments, what is wanted of its value, of an exception -/
abbrev DF := List D → EQ → EQ → Prop
def spD (K : PySem.W.Frag) (n : Nat) (G : DF) : Sp := fun vs H Q E => ∃ (ds : List D) (F : Fz) (Qd Ed : EQ), Same F H ∧ Reps K F ds vs ∧ ds.length = n ∧ G ds Qd Ed ∧
  (∀ d v F' H', Go F H F' H' → Rep K F' d v → Qd d → Q v H') ∧ (∀ x cls dx F' H', Go F H F' H' → XRep K F' H' x cls dx → Ed x → E cls dx H')
/-- a def of the text as it stands, with its promise -/
structure FD (P : Program) (w : World) (K : PySem.W.Frag) (mg : Str → Option Value) (base : Heap) (k : Nat) (f : Addr) (n : Nat) (dd : List D) (G : DF) : Prop where
  ok : ∃ (fd : FuncData) (ps : List Str) (dvs : List V) (ds : List Value), FnOk P w K mg base (L2.CX P w) k f fd ps (spD K n G) ∧ Binds K fd ps ds ∧ Vals dvs ds ∧ (∀ F, Reps K F dd dvs)
  kp : PySem.W.keepIn K (.ref f) = true
def dCall (n : Nat) (dd : List D) (G : DF) (ts : TDs) : TD := fun ρ Q E => ts ρ (fun ds => (ds ++ dd).length = n ∧ G (ds ++ dd) Q E) E
theorem call_run {K : PySem.W.Frag} {n : Nat} {dd : List D} {G : DF} {ts : TDs} {ta : TA} {dvs : List V} {ρ : Env'} {σ : L2.St} {F : Fz} {H : Hp} {Qd E : EQ} {Q : VK}
    (h2 : ∀ (ρ : Env') (σ : L2.St) (F : Fz) (H : Hp) (Qd : List D → Prop) (E : EQ) (Q : List V → Hp → Prop), Rl K ρ σ F H → XP K W σ F H E → (∀ ds vs F' H', Go F H F' H' → Reps K F' ds vs → Qd ds → Q vs H') → ts ρ Qd E → ta σ H Q)
    (hd : ∀ F, Reps K F dd dvs) (rl : Rl K ρ σ F H) (xp : XP K W σ F H E) (kk : ∀ d v F' H', Go F H F' H' → Rep K F' d v → Qd d → Q v H') (q : dCall n dd G ts ρ Qd E) : tCallSD (spD K n G) dvs (WE W) ta σ H Q := by
  refine h2 ρ σ F H _ E _ rl xp (fun ds vs F1 H1 g1 r1 q1 => ?_) q
  exact ⟨ds ++ dd, F1, Qd, E, g1.fh, r1.append (hd F1), q1.1, q1.2, fun d v F' H' g r qd => kk d v F' H' (g1.trans g) r qd, fun x cls dx F' H' g r ex => xp x cls dx F' H' (g1.trans g) r ex⟩
theorem re_call {k n : Nat} {f : Addr} {dd : List D} {G : DF} {x : Str} {p : Pos} (h : FD X.prog X.w X.K X.mg X.base k f n dd G) (hr : Room k X.A) (hm : X.mg x = some (.ref f)) (tk : Takes X W) (ha : RA X W (e :: es) ts)
    (hg : Gl X x := by rfl) (hdb : (x == ("__debug__" : Str)) = false := by decide) (he : starEach (e :: es) X.env = (false, eval e X.env) :: starEach es X.env := by rfl) (hpl : (backTo pos (starEach es X.env)).any (·.1) = false := by rfl) :
    RE X W (.Call (.Name x p) (e :: es) [] pos) (dCall n dd G ts) := by
  obtain ⟨fd, ps, dvs, dsv, F, bn, vl, hd⟩ := h.ok
  obtain ⟨ta, h1, h2⟩ := ha.run
  exact ⟨_, pe_callSD F hr hg hm h.kp bn vl (fun σ => passAt tk σ) h1 hdb he hpl, fun ρ σ F H Qd E Q rl xp kk q => call_run h2 hd rl xp kk q⟩

/-! ### fields -/
def FldOk (K : PySem.W.Frag) (C : Addr) (f : Str) : Prop := Cls K C ∧ NoAttr K C f
def dFld (K : PySem.W.Frag) (f : Str) (t : TD) : TD := fun ρ Q E => t ρ (fun x => match x with
  | .ins C fs => FldOk K C f ∧ asO Q (fs.lookup f)
  | _ => False) E
theorem re_fld {K : PySem.W.Frag} {f : Str} (he : RE X W e t) (hK : X.K = K := by rfl) (hb : attributeBase e f X.env (eval e X.env) = eval e X.env := by rfl) : RE X W (.Attribute e f pos) (dFld K f t) := by
  subst hK
  obtain ⟨te, h1, h2⟩ := he.run
  refine ⟨_, pe_fld h1 hb, fun ρ σ F H Qd E Q rl xp kk q => h2 ρ σ F H _ E _ rl xp (fun x vx F1 H1 g1 r1 q1 => ?_) q⟩
  cases x <;> first | exact False.elim q1 | skip
  cases r1 with
  | ins s r =>
    obtain ⟨d, h3, h4⟩ := asO_inv q1.2
    obtain ⟨v, h5, h6⟩ := r.look h3
    exact ⟨_, _, _, _, v, rfl, g1.fh _ _ s, q1.1.1, q1.1.2, h5, kk _ _ F1 H1 g1 h6 h4⟩
/-! ### methods of one's own classes -/
/-- a method (not raised at the slots alone): the receiver, the arguments -/
def tMethS (C : Addr) (m : Str) (sp : Sp) (E : L2.St → XK) (ta : TE) (u : TA) : TE := fun σ H Q => ta σ H fun x H1 => ∃ (a dx : Addr) (fs : List (Str × V)), x = .ref a ∧ H1 a = some (.ins C dx fs) ∧ fs.lookup m = none ∧
  u σ H1 fun vs H2 => sp (x :: vs) H2 Q (E σ)
theorem pe_methS0 {CX : CXT} {k : Nat} {f C : Addr} {fd : FuncData} {ps : List Str} {sp : Sp} {E : L2.St → XK} {m : Str} {apos : Pos} {o : Expr} {te : TE} {pl : Sem Bool}
    (he : PE X o te) (c : Cls X.K C) (hm : Meth X.K C m f) (F : FnOk X.prog X.w X.K X.mg X.base CX k f fd ps sp) (hr : Room k X.A) (hb : Binds X.K fd ps []) (hx : ∀ σ, PassesAt CX X σ (E σ))
    (ht : eval (.Call (.Attribute o m apos) [] [] pos) X.env = (eval o X.env >>= fun ov => standAt apos.atName >>= fun _ => holding [ov] (getMethod ov m pl) >>= fun (g : Value × List Value) => callWith pos g.1 g.2 (backTo pos (starEach [] X.env)) (backToKw pos (keywordEach [] X.env)))) :
    PE X (.Call (.Attribute o m apos) [] [] pos) (tMethS C m sp E te tNil) := by
  refine ⟨fun pins s σ H Q I h => ?_⟩
  refine PySem.W.methodCall_KW (pl := pl) (thn (he.run pins s σ H _ I h) fun w s1 hh => ?_) ht
  obtain ⟨x, H1, I1, rx, a, dx, fs, ex, ea, l, q⟩ := hh
  subst ex
  obtain rfl : w = Value.ref a := rx
  refine getmeth_ok I1 ea c hm l ?_
  exact PySem.W.callWith_K0 (first := [.ref a]) I1.kIn hm.kp (run_fnS (us := [.ref a]) (vs := [.ref a]) F hr hb (hx σ) I1 (.cons rfl .nil) q)
/-- the receiver an instance of the class at C -/
def dMeth (C : Addr) (m : Str) (n : Nat) (G : DF) (t : TD) (ts : TDs) : TD := fun ρ Q E => t ρ (fun x => match x with
  | .ins C' fs => C' = C ∧ fs.lookup m = none ∧ ts ρ (fun ds => ds.length + 1 = n ∧ G (x :: ds) Q E) E
  | _ => False) E
theorem meth_run {K : PySem.W.Frag} {C : Addr} {m : Str} {n : Nat} {G : DF} {te : TE} {ta : TA} {ρ : Env'} {σ : L2.St} {F : Fz} {H : Hp} {Qd E : EQ} {Q : VK}
    (h1 : ∀ (ρ : Env') (σ : L2.St) (F : Fz) (H : Hp) (Qd E : EQ) (Q : VK), Rl K ρ σ F H → XP K W σ F H E → (∀ d v F' H', Go F H F' H' → Rep K F' d v → Qd d → Q v H') → t ρ Qd E → te σ H Q)
    (h2 : ∀ (ρ : Env') (σ : L2.St) (F : Fz) (H : Hp) (Qd : List D → Prop) (E : EQ) (Q : List V → Hp → Prop), Rl K ρ σ F H → XP K W σ F H E → (∀ ds vs F' H', Go F H F' H' → Reps K F' ds vs → Qd ds → Q vs H') → ts ρ Qd E → ta σ H Q)
    (rl : Rl K ρ σ F H) (xp : XP K W σ F H E) (kk : ∀ d v F' H', Go F H F' H' → Rep K F' d v → Qd d → Q v H') (q : dMeth C m n G t ts ρ Qd E) : tMethS C m (spD K n G) (WE W) te ta σ H Q := by
  refine h1 ρ σ F H _ E _ rl xp (fun x vx F1 H1 g1 r1 q1 => ?_) q
  cases x <;> first | exact False.elim q1 | skip
  obtain ⟨rfl, q2, q3⟩ := q1
  cases id r1 with
  | ins s r =>
    refine ⟨_, _, _, rfl, g1.fh _ _ s, r.none q2, ?_⟩
    refine h2 ρ σ F1 H1 _ E _ (rl.go g1) (xp.go g1) (fun ds vs F2 H2 g2 r2 q4 => ?_) q3
    exact ⟨_ :: ds, F2, Qd, E, g2.fh, .cons (r1.mono g2.ff) r2, q4.1, q4.2, fun d v F' H' g r qd => kk d v F' H' ((g1.trans g2).trans g) r qd, fun x cls dx F' H' g r ex => xp x cls dx F' H' ((g1.trans g2).trans g) r ex⟩
/-- a def without defaults -/
structure FN (P : Program) (w : World) (K : PySem.W.Frag) (mg : Str → Option Value) (base : Heap) (k : Nat) (f : Addr) (n : Nat) (G : DF) : Prop where
  ok : ∃ (fd : FuncData) (ps : List Str), FnOk P w K mg base (L2.CX P w) k f fd ps (spD K n G) ∧ Binds K fd ps []
  kp : PySem.W.keepIn K (.ref f) = true
theorem FN.d {P : Program} {w : World} {K : PySem.W.Frag} {mg : Str → Option Value} {base : Heap} {k n : Nat} {f : Addr} {G : DF} (h : FN P w K mg base k f n G) : FD P w K mg base k f n [] G := by
  obtain ⟨fd, ps, F, b⟩ := h.ok
  exact ⟨⟨fd, ps, [], [], F, b, .nil, fun _ => .nil⟩, h.kp⟩
theorem re_meth0 {k n : Nat} {f C : Addr} {G : DF} {m : Str} {apos : Pos} {o : Expr} {pl : Sem Bool} (he : RE X W o t) (c : Cls X.K C) (hm : Meth X.K C m f) (h : FN X.prog X.w X.K X.mg X.base k f n G) (hr : Room k X.A) (tk : Takes X W)
    (ht : eval (.Call (.Attribute o m apos) [] [] pos) X.env = (eval o X.env >>= fun ov => standAt apos.atName >>= fun _ => holding [ov] (getMethod ov m pl) >>= fun (g : Value × List Value) => callWith pos g.1 g.2 (backTo pos (starEach [] X.env)) (backToKw pos (keywordEach [] X.env))) := by rfl) :
    RE X W (.Call (.Attribute o m apos) [] [] pos) (dMeth C m n G t dNil) := by
  obtain ⟨fd, ps, F, bn⟩ := h.ok
  obtain ⟨te, h1, h2⟩ := he.run
  exact ⟨_, pe_methS0 (pl := pl) h1 c hm F hr bn (fun σ => passAt tk σ) ht, fun ρ σ F H Qd E Q rl xp kk q => meth_run (ta := tNil) h2 (fun ρ σ F H Qd E Q rl xp kk q => kk [] [] F H (.refl rl.fh) .nil q) rl xp kk q⟩
/-- one of two readings (a receiver of one of two classes) -/
theorem RE.or {t' : TD} (h : RE X W e t) (h' : RE X W e t') : RE X W e (fun ρ Q E => t ρ Q E ∨ t' ρ Q E) := by
  obtain ⟨te, h1, h2⟩ := h.run
  obtain ⟨te', h1', h2'⟩ := h'.run
  refine ⟨fun σ H Q => te σ H Q ∨ te' σ H Q, ⟨fun pins s σ H Q I hw => hw.elim (h1.run pins s σ H Q I) (h1'.run pins s σ H Q I)⟩, fun ρ σ F H Qd E Q rl xp kk q => ?_⟩
  exact q.elim (fun z => .inl (h2 ρ σ F H Qd E Q rl xp kk z)) fun z => .inr (h2' ρ σ F H Qd E Q rl xp kk z)
end
end Dl

/-! The D-layer, part 5: zip of any two of lists and tuples. -/
namespace Dl
open PySem PySem.Spec
open PyProof.Rows L2
def ItA (k : Bool) (h : Heap) (it a : Addr) (i : Nat) : Prop := match k with
  | true => h.IsListIter it a i
  | false => h.IsTupleIter it a i
theorem ItA.there {k : Bool} {h : Heap} {it a : Addr} {i : Nat} (x : ItA k h it a i) : ∃ o, h.get? it = some o ∧ ∀ v, o.data ≠ .cell v := by
  cases k
  · obtain ⟨o, e, _, d⟩ := (show h.IsTupleIter it a i from x); exact ⟨o, e, fun v q => by rw [d] at q; cases q⟩
  · obtain ⟨o, e, _, d⟩ := (show h.IsListIter it a i from x); exact ⟨o, e, fun v q => by rw [d] at q; cases q⟩
section
variable {X : Cx} {pins : List (Addr × Obj)} {σ : L2.St} {H : Hp} {s : Shared} {a : Addr} {xs ys : List V} {k : Bool}
end
end Dl

/-! The D-layer, part 6: what is walked, comprehensions. -/
namespace Dl
open PySem PySem.Spec
open PyProof.Rows L2
/-- while F is frozen, J goes through ds -/
structure JW (K : PySem.W.Frag) (F : Fz) (J : It) (ds : List D) : Prop where
  go : ∃ (G : Hp → Prop) (Y : Nat → Hp → V → Hp → Prop), Walk J ds.length G Y ∧ (∀ (F' : Fz) (H' : Hp), SameF F F' → Same F' H' → G H') ∧
    ∀ i (F' : Fz) H' x H'', i < ds.length → SameF F F' → Same F' H' → Y i H' x H'' → ∃ F'' d, ds[i]? = some d ∧ Go F' H' F'' H'' ∧ Rep K F'' d x
structure RI (X : Cx) (W : WX) (tg iter : Expr) (t : TDs) : Prop where
  run : ∃ wi, PI X tg iter wi ∧ ∀ (ρ : Env') (σ : L2.St) (F : Fz) (H : Hp) (Qd : List D → Prop) (E : EQ) (R : It → Hp → Prop), Rl X.K ρ σ F H → XP X.K W σ F H E →
    (∀ ds J F' H', Go F H F' H' → JW X.K F' J ds → ds.length ≤ sizeLine → Qd ds → R J H') → t ρ Qd E → wi σ H R
section
variable {X : Cx} {W : WX} {tg e a b c : Expr} {es : List Expr} {t ta tb tc : TD} {ts : TDs} {pos : Pos}
theorem jw_seq {K : PySem.W.Frag} {F : Fz} {J : It} {ds : List D} {vs : List V} {G : Hp → Prop} (w : Walk J vs.length G (YAt vs)) (hg : ∀ (F' : Fz) (H' : Hp), SameF F F' → Same F' H' → G H') (r : Reps K F ds vs) : JW K F J ds := by
  refine ⟨G, YAt vs, by rw [← r.length]; exact w, hg, fun i F' H' x H'' hi e1 e2 y => ?_⟩
  obtain ⟨rfl, y⟩ := y
  obtain ⟨d, h1, h2⟩ := r.get' y
  exact ⟨F', d, h1, .refl e2, h2.mono e1⟩
/-- over a list or a tuple -/
def asSeq (Q : List D → Prop) : EQ
  | .lst ds => Q ds
  | .frl ds => Q ds
  | .tup ds => Q ds
  | .mu ds => Q ds
  | _ => False
theorem asSeq_inv {Q : List D → Prop} {d : D} (h : asSeq Q d) : ∃ ds, (d = .lst ds ∨ d = .frl ds ∨ d = .tup ds ∨ d = .mu ds) ∧ Q ds := by
  cases d <;> first | exact False.elim h | skip
  · exact ⟨_, .inr (.inr (.inl rfl)), h⟩
  · exact ⟨_, .inl rfl, h⟩
  · exact ⟨_, .inr (.inl rfl), h⟩
  · exact ⟨_, .inr (.inr (.inr rfl)), h⟩
def dSeq (t : TD) : TDs := fun ρ Q E => t ρ (asSeq Q) E
theorem ri_seq (h : RE X W e t) : RI X W tg e (dSeq t) := by
  obtain ⟨te, h1, h2⟩ := h.run
  let wi : TI := fun σ H R => te σ H fun x H1 => ∃ a, x = .ref a ∧ (((∃ xs, SqL X.K H1 a xs) ∧ R (Itl X.K a) H1) ∨ ((∃ xs, SqT X.K H1 a xs) ∧ R (Itt X.K a) H1))
  have hp : PI X tg e wi := by
    refine ⟨fun pins s σ H R I q => ?_⟩
    refine thn (h1.run pins s σ H _ I q) fun v s1 ⟨x, H1, I1, r1, a, ex, q1⟩ => ?_
    subst ex
    cases r1
    rcases q1 with ⟨⟨xs, hq⟩, q1⟩ | ⟨⟨xs, hq⟩, q1⟩
    · obtain ⟨its, rv, p, hz⟩ := I1.list hq
      refine wpAny_pyIter_list p.isList ?_
      refine ⟨s1.heap.objs.size, [s1.heap.objs.size], _, _, H1, rfl, I1.kept (t' := s1.toks) fun b o e => Heap.get?_push_of_some _ e, turn_list a _, ⟨_, Heap.get?_push_size _ rfl, rfl, rfl⟩, fun b hb => ?_, q1⟩
      rw [List.mem_singleton.mp hb]
      exact I1.fpOk (Nat.le_refl _) (I1.hok.fresh (Nat.le_refl _))
    · obtain ⟨its, rv, p, hz⟩ := I1.tuple hq
      refine wpAny_pyIter_tuple (show s1.heap.IsTuple a its.toArray from p) ?_
      refine ⟨s1.heap.objs.size, [s1.heap.objs.size], _, _, H1, rfl, I1.kept (t' := s1.toks) fun b o e => Heap.get?_push_of_some _ e, turn_tuple a _, ⟨_, Heap.get?_push_size _ rfl, rfl, rfl⟩, fun b hb => ?_, q1⟩
      rw [List.mem_singleton.mp hb]
      exact I1.fpOk (Nat.le_refl _) (I1.hok.fresh (Nat.le_refl _))
  refine ⟨wi, hp, fun ρ σ F H Qd E R rl xp kk q => h2 ρ σ F H _ E _ rl xp (fun d v F1 H1 g1 r1 q1 => ?_) q⟩
  obtain ⟨ds, hd, q2⟩ := asSeq_inv q1
  rcases hd with rfl | rfl | rfl | rfl
  · cases r1 with
    | lst s _ l r =>
      exact ⟨_, rfl, .inl ⟨⟨_, SqL.of (g1.fh _ _ s)⟩, kk ds _ F1 H1 g1 (jw_seq walk_list (fun F' H' e1 e2 => SqL.of (e2 _ _ (e1.s _ _ s))) r) (by rw [← r.length]; exact l) q2⟩⟩
  · cases r1 with
    | frl s l r =>
      have s := same_seqL F1.kh_same s
      exact ⟨_, rfl, .inl ⟨⟨_, same_seqL g1.fh s⟩, kk ds _ F1 H1 g1 (jw_seq walk_list (fun F' H' e1 e2 => same_seqL e2 (same_seqL e1.s s)) r) (by rw [← r.length]; exact l) q2⟩⟩
  · cases r1 with
    | tup s l r =>
      exact ⟨_, rfl, .inr ⟨⟨_, same_seqT g1.fh (SqT.of s)⟩, kk ds _ F1 H1 g1 (jw_seq walk_tup (fun F' H' e1 e2 => same_seqT e2 (same_seqT e1.s (SqT.of s))) r) (by rw [← r.length]; exact l) q2⟩⟩
  · cases r1 with
    | mu s _ l r =>
      exact ⟨_, rfl, .inl ⟨⟨_, SqL.of (g1.fh _ _ s)⟩, kk ds _ F1 H1 g1 (jw_seq walk_list (fun F' H' e1 e2 => SqL.of (e2 _ _ (e1.s _ _ s))) r) (by rw [← r.length]; exact l) q2⟩⟩
/-- lo, lo + 1, .. -/
def irg (lo : Int) : Nat → List D
  | 0 => []
  | n + 1 => .int lo :: irg (lo + 1) n
theorem irg_len (n : Nat) : ∀ lo : Int, (irg lo n).length = n := by
  induction n with
  | zero => intro lo; rfl
  | succ n ih => intro lo; show (irg (lo + 1) n).length + 1 = n + 1; rw [ih]
theorem irg_get (n : Nat) : ∀ (lo : Int) (i : Nat), i < n → (irg lo n)[i]? = some (.int (lo + i)) := by
  induction n with
  | zero => intro lo i h; omega
  | succ n ih =>
    intro lo i h
    cases i with
    | zero => show some (D.int lo) = _; rw [show lo + ((0 : Nat) : Int) = lo by omega]
    | succ i =>
      show (irg (lo + 1) n)[i]? = _
      rw [ih (lo + 1) i (by omega)]
      rw [show lo + 1 + (i : Int) = lo + ((i + 1 : Nat) : Int) by omega]
theorem jw_range {K : PySem.W.Frag} {F : Fz} (lo : Int) (n : Nat) : JW K F (Itr lo n) (irg lo n) := by
  refine ⟨fun _ => True, YFn fun i => .int (lo + i), by rw [irg_len]; exact walk_range, fun _ _ _ _ => trivial, fun i F' H' x H'' hi e1 e2 y => ?_⟩
  obtain ⟨rfl, rfl⟩ := y
  rw [irg_len] at hi
  exact ⟨F', _, irg_get n lo i hi, .refl e2, .int _⟩
def dRng1 (t : TD) : TDs := fun ρ Q E => t ρ (asI fun j => j ≤ 16777216 ∧ -16777216 ≤ j ∧ Q (irg 0 j.toNat)) E
theorem ri_range1 {p : Pos} (h : RP X W a t) (hm : X.mg "range" = none) (hg : Gl X "range" := by rfl) (hs : starEach [a] X.env = (false, eval a X.env) :: starEach [] X.env := by rfl) : RI X W tg (.Call (.Name "range" p) [a] [] pos) (dRng1 t) := by
  obtain ⟨te, h1, h2⟩ := h.run
  refine ⟨_, pi_range1 hg hm (pa_cons h1 pa_nil hs) hs, fun ρ σ F H Qd E R rl xp kk q => h2 ρ σ F H _ E _ rl xp (fun d v F1 H1 g1 r1 q1 => ?_) q⟩
  obtain ⟨j, rfl, z1, z2, q2⟩ := asI_inv q1
  cases r1.int
  exact ⟨j, rfl, by omega, by omega, kk _ _ F1 H1 g1 (jw_range 0 j.toNat) (by rw [irg_len, sizeLine_eq]; omega) q2⟩
/-- pairs -/
def pairs : List D → List D → List D
  | x :: xs, y :: ys => .tup [x, y] :: pairs xs ys
  | _, _ => []
def onLs (Q : List D → Prop) : EQ
  | .lst ds => Q ds
  | .frl ds => Q ds
  | .mu ds => Q ds
  | _ => False
theorem onLs_inv {Q : List D → Prop} {d : D} (h : onLs Q d) : ∃ ds, (d = .lst ds ∨ d = .frl ds ∨ d = .mu ds) ∧ Q ds := by
  cases d <;> first | exact False.elim h | skip
  · exact ⟨_, .inl rfl, h⟩
  · exact ⟨_, .inr (.inl rfl), h⟩
  · exact ⟨_, .inr (.inr rfl), h⟩
/-- over a text, sign by sign -/
def signs (z : Str) : List D := z.cps.toList.map fun c => .str ⟨#[c]⟩
def asS (Q : Str → Prop) : EQ
  | .str z => Q z
  | _ => False
theorem asS_inv {Q : Str → Prop} {d : D} (h : asS Q d) : ∃ z, d = .str z ∧ Q z := by
  cases d <;> first | exact ⟨_, rfl, h⟩ | exact False.elim h
def dSigns (t : TD) : TDs := fun ρ Q E => t ρ (asS fun z => z.length ≤ 16777216 ∧ Q (signs z)) E
theorem ri_str (h : RP X W e t) : RI X W tg e (dSigns t) := by
  obtain ⟨te, h1, h2⟩ := h.run
  refine ⟨_, pi_str h1, fun ρ σ F H Qd E R rl xp kk q => h2 ρ σ F H _ E _ rl xp (fun d v F1 H1 g1 r1 q1 => ?_) q⟩
  obtain ⟨z, rfl, zl, q2⟩ := asS_inv q1
  cases r1.str
  have sl : (signs z).length = z.cps.size := by unfold signs; rw [List.length_map, Array.length_toList]
  refine ⟨z, rfl, kk _ _ F1 H1 g1 ⟨_, _, by rw [sl]; exact walk_str, fun _ _ _ _ => trivial, fun i F' H' x H'' hi e1 e2 y => ?_⟩ (by rw [sl, sizeLine_eq]; exact zl) q2⟩
  obtain ⟨rfl, c, hc, rfl⟩ := y
  refine ⟨F', .str ⟨#[c]⟩, ?_, .refl e2, .str _⟩
  unfold signs
  rw [List.getElem?_map, Array.getElem?_toList, hc]
  rfl

/-! ### targets -/
abbrev DG := D → Env' → (Env' → Prop) → Prop
/-- a target that stores at the slots js alone -/
structure RG (X : Cx) (tg : Expr) (js : List Nat) (g : DG) : Prop where
  run : ∃ tg', PG X tg tg' ∧ ∀ (ρ : Env') (σ : L2.St) (F : Fz) (H : Hp) (d : D) (v : V) (Qd : Env' → Prop) (Q : L2.St → Hp → Prop), ρ.length = σ.length → Same F H → Rep X.K F d v →
    (∀ ρ' σ' (us : List (Nat × D × V)), ρ' = us.foldl (fun r u => r.set u.1 (.sh u.2.1)) ρ → σ' = us.foldl (fun s u => s.set u.1 (some u.2.2)) σ → (∀ u ∈ us, u.1 ∈ js ∧ Rep X.K F u.2.1 u.2.2) → Qd ρ' → Q σ' H) → g d ρ Qd → tg' v σ H Q
structure RGs (X : Cx) (tgs : List Expr) (js : List Nat) (g : List D → Env' → (Env' → Prop) → Prop) : Prop where
  run : ∃ tg', PGs X tgs tg' ∧ ∀ (ρ : Env') (σ : L2.St) (F : Fz) (H : Hp) (ds : List D) (vs : List V) (Qd : Env' → Prop) (Q : L2.St → Hp → Prop), ρ.length = σ.length → Same F H → Reps X.K F ds vs →
    (∀ ρ' σ' (us : List (Nat × D × V)), ρ' = us.foldl (fun r u => r.set u.1 (.sh u.2.1)) ρ → σ' = us.foldl (fun s u => s.set u.1 (some u.2.2)) σ → (∀ u ∈ us, u.1 ∈ js ∧ Rep X.K F u.2.1 u.2.2) → Qd ρ' → Q σ' H) → g ds ρ Qd → tg' vs σ H Q
def gNm (i : Nat) : DG := fun d ρ Q => Q (ρ.set i (.sh d))
theorem rg_name (i : Nat) {x : Str} (hN : X.N.Nodup) (hi : X.N[i]? = some x := by rfl) (hx : Loc X.env.scope x := by first | exact Or.inl rfl | exact Or.inr rfl) (hf : X.fn x = true ∨ X.env.scope.names.lookup x = some .local := by first | exact .inl rfl | exact .inr rfl) : RG X (.Name x pos) [i] (gNm i) := by
  refine ⟨_, pg_name hN hi hx hf, fun ρ σ F H d v Qd Q hl e r kk q => ?_⟩
  exact kk _ _ [(i, d, v)] rfl rfl (fun u hu => by rw [List.mem_singleton.mp hu]; exact ⟨List.mem_singleton.mpr rfl, r⟩) q
def gNl : List D → Env' → (Env' → Prop) → Prop := fun ds ρ Q => match ds with
  | [] => Q ρ
  | _ => False
def gCs (g : DG) (u : List D → Env' → (Env' → Prop) → Prop) : List D → Env' → (Env' → Prop) → Prop := fun ds ρ Q => match ds with
  | d :: ds => g d ρ fun ρ' => u ds ρ' Q
  | _ => False
theorem rgs_nil : RGs X [] [] gNl := by
  refine ⟨_, pgs_nil, fun ρ σ F H ds vs Qd Q hl e r kk q => ?_⟩
  cases ds with
  | cons d ds => exact False.elim q
  | nil => cases r; exact ⟨rfl, kk ρ σ [] rfl rfl (fun u hu => by cases hu) q⟩
theorem fold_len {α β : Type} (f : β → Nat × α) : ∀ (us : List β) (l : List α), (us.foldl (fun r u => r.set (f u).1 (f u).2) l).length = l.length
  | [], _ => rfl
  | u :: us, l => by rw [List.foldl_cons, fold_len f us, List.length_set]
theorem rgs_cons {js js' : List Nat} {g : DG} {u : List D → Env' → (Env' → Prop) → Prop} (h : RG X e js g) (hr : RGs X es js' u) (hs : (assignEach (e :: es) X.env).map (·.2) = assign e X.env :: (assignEach es X.env).map (·.2) := by rfl) : RGs X (e :: es) (js ++ js') (gCs g u) := by
  obtain ⟨g1, h1, h2⟩ := h.run
  obtain ⟨g2, a1, a2⟩ := hr.run
  refine ⟨_, pgs_cons h1 a1 hs, fun ρ σ F H ds vs Qd Q hl e r kk q => ?_⟩
  cases ds with
  | nil => exact False.elim q
  | cons d ds =>
    cases r with
    | cons r rr =>
      refine ⟨_, _, rfl, h2 ρ σ F H d _ _ _ hl e r (fun ρ' σ' us e1 e2 hu q1 => ?_) q⟩
      have hl' : ρ'.length = σ'.length := by
        rw [e1, e2, fold_len (fun u : Nat × D × V => (u.1, Sl.sh u.2.1)), fold_len (fun u : Nat × D × V => (u.1, some u.2.2))]; exact hl
      refine a2 ρ' σ' F H ds _ _ _ hl' e rr (fun ρ2 σ2 us2 e3 e4 hu2 q2 => ?_) q1
      refine kk ρ2 σ2 (us ++ us2) (by rw [List.foldl_append, ← e1]; exact e3) (by rw [List.foldl_append, ← e2]; exact e4) (fun u hu' => ?_) q2
      rcases List.mem_append.mp hu' with z | z
      · exact ⟨List.mem_append_left _ (hu u z).1, (hu u z).2⟩
      · exact ⟨List.mem_append_right _ (hu2 u z).1, (hu2 u z).2⟩
def gTp (n : Nat) (u : List D → Env' → (Env' → Prop) → Prop) : DG := fun d ρ Q => match d with
  | .tup ds => ds.length = n ∧ u ds ρ Q
  | _ => False
theorem rg_tup {k n : Nat} {js : List Nat} {u : List D → Env' → (Env' → Prop) → Prop} (h : RGs X es js u) (hc : X.calm = true := by rfl) (hn : (assignEach es X.env).length = n := by rfl) (hst : (assignEach es X.env).findIdx? (·.1) = none := by rfl) : RG X (.Tuple es k pos) js (gTp n u) := by
  obtain ⟨g1, h1, h2⟩ := h.run
  refine ⟨_, pg_tup hc h1 hn hst, fun ρ σ F H d v Qd Q hl e r kk q => ?_⟩
  cases d <;> first | exact False.elim q | skip
  cases r with
  | tup s l r => exact ⟨_, _, rfl, SqT.of (e _ _ s), by rw [r.length]; exact q.1, h2 ρ σ F H _ _ _ _ hl e r kk q.2⟩
end
end Dl

/-! The D-layer, part 7: comprehensions. -/
namespace Dl
open PySem PySem.Spec
open PyProof.Rows L2
def wipeD (ρ : Env') : List Nat → Env'
  | [] => ρ
  | v :: vs => (wipeD ρ vs).set v .no
theorem wipeD_len (ρ : Env') : ∀ vs : List Nat, (wipeD ρ vs).length = ρ.length
  | [] => rfl
  | v :: vs => by unfold wipeD; rw [List.length_set, wipeD_len ρ vs]
theorem wipeD_get {ρ : Env'} {i : Nat} {x : Sl} : ∀ {vs : List Nat}, (wipeD ρ vs)[i]? = some x → x ≠ .no → i ∉ vs ∧ ρ[i]? = some x
  | [], h, _ => ⟨by simp, h⟩
  | v :: vs, h, ne => by
    unfold wipeD at h
    by_cases hi : v = i
    · subst hi
      by_cases hl : v < (wipeD ρ vs).length
      · rw [List.getElem?_set_self hl] at h; cases h; exact absurd rfl ne
      · rw [List.getElem?_eq_none (by simpa using hl)] at h; cases h
    · rw [List.getElem?_set_ne hi] at h
      obtain ⟨h1, h2⟩ := wipeD_get h ne
      exact ⟨by simp only [List.mem_cons, not_or]; exact ⟨fun e => hi e.symm, h1⟩, h2⟩
theorem wipe_at {σ : L2.St} {i : Nat} : ∀ {vs : List Nat}, (L2.wipe σ vs)[i]? = if i ∈ vs ∧ i < σ.length then some none else σ[i]?
  | [] => by simp [L2.wipe]
  | v :: vs => by
    unfold L2.wipe
    by_cases hi : v = i
    · subst hi
      by_cases hl : v < σ.length
      · rw [List.getElem?_set_self (by rw [L2.wipe_length]; exact hl), if_pos ⟨by simp, hl⟩]
      · rw [if_neg (fun h => hl h.2), List.getElem?_eq_none (by rw [List.length_set, L2.wipe_length]; omega), List.getElem?_eq_none (by omega)]
    · rw [List.getElem?_set_ne hi, wipe_at (vs := vs)]
      have : (i ∈ v :: vs) = (i ∈ vs) := by
        rw [List.mem_cons]
        exact propext ⟨fun h => h.resolve_left (fun e => hi e.symm), .inr⟩
      simp only [this]
theorem wipe_set {σ : L2.St} {vs : List Nat} {i : Nat} {x : Option V} (h : i ∈ vs) : L2.wipe (σ.set i x) vs = L2.wipe σ vs := by
  refine List.ext_getElem? fun j => ?_
  rw [wipe_at, wipe_at, List.length_set]
  by_cases hj : i = j
  · subst hj
    by_cases hl : i < σ.length
    · rw [if_pos ⟨h, hl⟩, if_pos ⟨h, hl⟩]
    · rw [if_neg (fun z => hl z.2), if_neg (fun z => hl z.2), List.getElem?_eq_none (by rw [List.length_set]; omega), List.getElem?_eq_none (by omega)]
  · rw [List.getElem?_set_ne hj]
theorem wipe_wipe {σ : L2.St} {vs : List Nat} : L2.wipe (L2.wipe σ vs) vs = L2.wipe σ vs := by
  refine List.ext_getElem? fun j => ?_
  rw [wipe_at, wipe_at, L2.wipe_length]
  by_cases h : j ∈ vs ∧ j < σ.length
  · rw [if_pos h, if_pos h]
  · rw [if_neg h, if_neg h]
theorem wipe_fold {vs : List Nat} : ∀ (us : List (Nat × D × V)) (σ : L2.St), (∀ u ∈ us, u.1 ∈ vs) → L2.wipe (us.foldl (fun s u => s.set u.1 (some u.2.2)) σ) vs = L2.wipe σ vs
  | [], _, _ => rfl
  | u :: us, σ, h => by
    rw [List.foldl_cons, wipe_fold us _ fun u hu => h u (List.mem_cons_of_mem _ hu), wipe_set (h u List.mem_cons_self)]
theorem Rl.wipe {K : PySem.W.Frag} {ρ : Env'} {σ : L2.St} {F : Fz} {H : Hp} (r : Rl K ρ σ F H) (vs : List Nat) : Rl K (wipeD ρ vs) (L2.wipe σ vs) F H := by
  have key : ∀ {i : Nat} {x : Sl}, (wipeD ρ vs)[i]? = some x → x ≠ .no → ρ[i]? = some x ∧ (L2.wipe σ vs)[i]? = σ[i]? := fun {i x} h ne => by
    obtain ⟨h1, h2⟩ := wipeD_get h ne
    exact ⟨h2, by rw [wipe_at, if_neg fun z => h1 z.1]⟩
  refine ⟨by rw [wipeD_len, L2.wipe_length]; exact r.len, r.fh, fun i d e => ?_, fun i ds e => ?_, fun i C fs e => ?_, fun i kvs e => ?_, fun i j s t v e1 o1 e2 o2 e3 e4 => ?_⟩
  · obtain ⟨h1, h2⟩ := key e (fun z => nomatch z)
    rw [h2]; exact r.sh i d h1
  · obtain ⟨h1, h2⟩ := key e (fun z => nomatch z)
    rw [h2]; exact r.ow i ds h1
  · obtain ⟨h1, h2⟩ := key e (fun z => nomatch z)
    rw [h2]; exact r.oi i C fs h1
  · obtain ⟨h1, h2⟩ := key e (fun z => nomatch z)
    rw [h2]; exact r.od i kvs h1
  · obtain ⟨h1, h2⟩ := key e1 (fun z => by subst z; cases o1)
    obtain ⟨h1', h2'⟩ := key e2 (fun z => by subst z; cases o2)
    rw [h2] at e3; rw [h2'] at e4
    exact r.inj i j s t v h1 o1 h1' o2 e3 e4
theorem Rl.set {K : PySem.W.Frag} {ρ : Env'} {σ : L2.St} {F : Fz} {H : Hp} (r : Rl K ρ σ F H) (i : Nat) {d : D} {v : V} (rd : Rep K F d v) : Rl K (ρ.set i (.sh d)) (σ.set i (some v)) F H := by
  have key : ∀ {j : Nat} {x : Sl}, (ρ.set i (.sh d))[j]? = some x → x.own = true → ρ[j]? = some x ∧ (σ.set i (some v))[j]? = σ[j]? := fun {j x} h o => by
    by_cases hj : i = j
    · subst hj
      by_cases hl : i < ρ.length
      · rw [List.getElem?_set_self hl] at h; cases h; cases o
      · rw [List.getElem?_eq_none (by rw [List.length_set]; omega)] at h; cases h
    · rw [List.getElem?_set_ne hj] at h ⊢
      exact ⟨h, rfl⟩
  refine ⟨by rw [List.length_set, List.length_set]; exact r.len, r.fh, fun j d' e => ?_, fun j ds e => ?_, fun j C fs e => ?_, fun j kvs e => ?_, fun j k s t w e1 o1 e2 o2 e3 e4 => ?_⟩
  · by_cases hj : i = j
    · subst hj
      have hl : i < ρ.length := by
        have z := (List.getElem?_eq_some_iff.mp e).1
        rw [List.length_set] at z; exact z
      rw [List.getElem?_set_self hl] at e
      cases e
      exact ⟨v, List.getElem?_set_self (by rw [← r.len]; exact hl), rd⟩
    · rw [List.getElem?_set_ne hj] at e ⊢
      exact r.sh j d' e
  · obtain ⟨h1, h2⟩ := key e rfl
    rw [h2]; exact r.ow j ds h1
  · obtain ⟨h1, h2⟩ := key e rfl
    rw [h2]; exact r.oi j C fs h1
  · obtain ⟨h1, h2⟩ := key e rfl
    rw [h2]; exact r.od j kvs h1
  · obtain ⟨h1, h2⟩ := key e1 o1
    obtain ⟨h1', h2'⟩ := key e2 o2
    rw [h2] at e3; rw [h2'] at e4
    exact r.inj j k s t w h1 o1 h1' o2 e3 e4
theorem Rl.sets {K : PySem.W.Frag} {F : Fz} {H : Hp} : ∀ (us : List (Nat × D × V)) {ρ : Env'} {σ : L2.St}, Rl K ρ σ F H → (∀ u ∈ us, Rep K F u.2.1 u.2.2) → Rl K (us.foldl (fun r u => r.set u.1 (.sh u.2.1)) ρ) (us.foldl (fun s u => s.set u.1 (some u.2.2)) σ) F H
  | [], _, _, r, _ => r
  | u :: us, _, _, r, h => Rl.sets us (r.set u.1 (h u List.mem_cons_self)) fun v hv => h v (List.mem_cons_of_mem _ hv)
/-! ### [elt for tg in iter if ..] -/
abbrev W0 : WX := fun _ _ _ _ => False
theorem xp0 {K : PySem.W.Frag} {σ : L2.St} {F : Fz} {H : Hp} : XP K W0 σ F H fun _ => False := fun _ _ _ _ _ _ _ h => h
def compR (g : DG) (tt : TDb) (te : TD) (ρ : Env') (Q : List D → Prop) : List D → List D → Prop
  | [], acc => Q acc
  | d :: ds, acc => g d ρ fun ρ2 => tt ρ2 (fun b => ifP b (te ρ2 (fun y => compR g tt te ρ Q ds (acc ++ [y])) (fun _ => False)) (compR g tt te ρ Q ds acc)) fun _ => False
/-- the same, shut -/
structure compL (g : DG) (tt : TDb) (te : TD) (ρ : Env') (Q : List D → Prop) (ds acc : List D) : Prop where
  out : compR g tt te ρ Q ds acc
def dYes : TDb := fun _ Q _ => Q true
structure RTs (X : Cx) (W : WX) (ifs : List Expr) (t : TDb) : Prop where
  run : ∃ tt, PTs X ifs tt ∧ ∀ (ρ : Env') (σ : L2.St) (F : Fz) (H : Hp) (Qd : Bool → Prop) (E : EQ) (Q : Bool → Hp → Prop), Rl X.K ρ σ F H → XP X.K W σ F H E →
    (∀ b F' H', Go F H F' H' → Qd b → Q b H') → t ρ Qd E → tt σ H Q
theorem rts_nil {X : Cx} {W : WX} : RTs X W [] dYes := ⟨_, pts_nil, fun ρ σ F H Qd E Q rl xp kk q => kk _ F H (.refl rl.fh) q⟩
/-- a reading of values that is worth a reading of trees -/
def liftE (K : PySem.W.Frag) (W : WX) (t : TD) : TE := fun σ H Q => ∃ (ρ : Env') (F : Fz) (Qd E : EQ), Rl K ρ σ F H ∧ XP K W σ F H E ∧ (∀ d v F' H', Go F H F' H' → Rep K F' d v → Qd d → Q v H') ∧ t ρ Qd E
theorem RE.lift {X : Cx} {W : WX} {e : Expr} {t : TD} (h : RE X W e t) : PE X e (liftE X.K W t) := by
  obtain ⟨te, h1, h2⟩ := h.run
  refine ⟨fun pins s σ H Q I ⟨ρ, F, Qd, E, rl, xp, kk, q⟩ => h1.run pins s σ H Q I (h2 ρ σ F H Qd E Q rl xp kk q)⟩
def liftT (K : PySem.W.Frag) (W : WX) (t : TDb) : TT := fun σ H Q => ∃ (ρ : Env') (F : Fz) (Qd : Bool → Prop) (E : EQ), Rl K ρ σ F H ∧ XP K W σ F H E ∧ (∀ d F' H', Go F H F' H' → Qd d → Q d H') ∧ t ρ Qd E
theorem RTs.lift {X : Cx} {W : WX} {e : List Expr} {t : TDb} (h : RTs X W e t) : PTs X e (liftT X.K W t) := by
  obtain ⟨te, h1, h2⟩ := h.run
  refine ⟨fun pins s σ H Q I ⟨ρ, F, Qd, E, rl, xp, kk, q⟩ => h1.run pins s σ H Q I (h2 ρ σ F H Qd E Q rl xp kk q)⟩
def liftG (K : PySem.W.Frag) (js : List Nat) (g : DG) : TG := fun v σ H Q => ∃ (ρ : Env') (F : Fz) (d : D) (Qd : Env' → Prop), ρ.length = σ.length ∧ Same F H ∧ Rep K F d v ∧
    (∀ ρ' σ' (us : List (Nat × D × V)), ρ' = us.foldl (fun r u => r.set u.1 (.sh u.2.1)) ρ → σ' = us.foldl (fun s u => s.set u.1 (some u.2.2)) σ → (∀ u ∈ us, u.1 ∈ js ∧ Rep K F u.2.1 u.2.2) → Qd ρ' → Q σ' H) ∧ g d ρ Qd
theorem RG.lift {X : Cx} {e : Expr} {js : List Nat} {g : DG} (h : RG X e js g) : PG X e (liftG X.K js g) := by
  obtain ⟨te, h1, h2⟩ := h.run
  refine ⟨fun pins s σ H v u Q I r ⟨ρ, F, d, Qd, hl, e, rd, kk, q⟩ => h1.run pins s σ H v u Q I r (h2 ρ σ F H d v Qd Q hl e rd kk q)⟩
def dLc (ti : TDs) (g : DG) (tt : TDb) (te : TD) (vs : List Nat) : TD := fun ρ Q E => ti ρ (fun ds => compL g tt te (wipeD ρ vs) (fun r => Q (.lst r)) ds []) E
/-- a list that is new and nobody else's -/
structure RN (X : Cx) (W : WX) (e : Expr) (t : TDs) : Prop where
  run : ∃ te, PE X e te ∧ ∀ (ρ : Env') (σ : L2.St) (F : Fz) (H : Hp) (Qd : List D → Prop) (E : EQ) (Q : VK), Rl X.K ρ σ F H → XP X.K W σ F H E →
    (∀ ds p vs F' H', Go F H F' H' → H p = none → H' p = some (.lst vs) → F' p = none → vs.length ≤ sizeLine → Reps X.K F' ds vs → Qd ds → Q (.ref p) H') → t ρ Qd E → te σ H Q
def dFz (t : TDs) : TD := fun ρ Q E => t ρ (fun ds => Q (.lst ds)) E
theorem Go.freeze {F : Fz} {H : Hp} {F' : Fz} {H' : Hp} {p : Addr} {vs : List V} (g : Go F H F' H') (np : H p = none) (hp : H' p = some (.lst vs)) (fp : F' p = none) : Go F H (F'.upd p (.lst vs)) H' := by
  refine ⟨g.ff.trans (same_updF fp), g.hh, fun b u e => ?_, fun q h1 h2 => ?_⟩
  · rw [Fz.upd_h] at e
    by_cases z : b = p
    · subst z; rw [upd_same] at e; cases e; exact hp
    · rw [upd_ne z] at e; exact g.fh _ _ e
  · rw [Fz.upd_h, upd_ne (fun z => by rw [z] at h2; exact h2 np)]; exact g.nn q h1 h2
theorem RN.e {X : Cx} {W : WX} {e : Expr} {t : TDs} (h : RN X W e t) : RE X W e (dFz t) := by
  obtain ⟨te, h1, h2⟩ := h.run
  refine ⟨te, h1, fun ρ σ F H Qd E Q rl xp kk q => h2 ρ σ F H _ E _ rl xp (fun ds p vs F' H' g np hp fp z r q1 => ?_) q⟩
  exact kk _ _ _ H' (g.freeze np hp fp) (.lst upd_same (F'.upd_p p _) z (r.mono (same_updF fp))) q1
section
variable {X : Cx} {W : WX}
theorem go_acc {F1 : Fz} {H1 : Hp} {F : Fz} {H : Hp} {p : Addr} {vs ws : List V} (g : Go F1 H1 F H) (n1 : H1 p = none) (hp : H p = some (.lst vs)) (fp : F p = none) : Go F1 H1 F (upd H p (.lst ws)) := by
  refine ⟨g.ff, fun b u e => ?_, fun b u e => ?_, g.nn⟩
  · rw [upd_ne (ne_of_none e n1)]; exact g.hh _ _ e
  · rw [upd_ne (ne_of_none e fp)]; exact g.fh _ _ e
def dLcN (ti : TDs) (g : DG) (tt : TDb) (te : TD) (vs : List Nat) : TDs := fun ρ Q E => ti ρ (fun ds => compL g tt te (wipeD ρ vs) Q ds []) E
theorem lc_run {K : PySem.W.Frag} {wi : TI} {ti : TDs} {g : DG} {js : List Nat} {tt : TDb} {te : TD} {vs : List Nat} (hjs : ∀ i ∈ js, i ∈ vs)
    (hi : ∀ (ρ : Env') (σ : L2.St) (F : Fz) (H : Hp) (Qd : List D → Prop) (E : EQ) (R : It → Hp → Prop), Rl K ρ σ F H → XP K W σ F H E → (∀ ds J F' H', Go F H F' H' → JW K F' J ds → ds.length ≤ sizeLine → Qd ds → R J H') → ti ρ Qd E → wi σ H R)
    {ρ : Env'} {σ : L2.St} {F : Fz} {H : Hp} {Qd : List D → Prop} {E : EQ} {Q : VK} (rl : Rl K ρ σ F H) (xp : XP K W σ F H E)
    (kk : ∀ ds p vs F' H', Go F H F' H' → H p = none → H' p = some (.lst vs) → F' p = none → vs.length ≤ sizeLine → Reps K F' ds vs → Qd ds → Q (.ref p) H') (q : dLcN ti g tt te vs ρ Qd E) :
    tLc wi (liftG K js g) (liftT K W0 tt) (liftE K W0 te) vs σ H Q := by
  refine hi ρ σ F H _ E _ rl xp (fun ds J F1 H1 g1 jw zl q1 => ?_) q
  intro P nP
  obtain ⟨G, Y, w, hG, hY⟩ := jw.go
  have fP : F1 P = none := g1.fh.free nP
  let Inv : Nat → Hp → Prop := fun i H' => ∃ (F' : Fz) (acc : List D) (av : List V), Go F1 H1 F' H' ∧ H' P = some (.lst av) ∧ F' P = none ∧ Reps K F' acc av ∧ av.length ≤ i ∧ compR g tt te (wipeD ρ vs) Qd (ds.drop i) acc
  refine lc_it w Inv ⟨F1, [], [], ⟨SameF.refl _, same_upd nP, g1.fh.trans (same_upd nP), fun p h _ => h⟩, upd_same, fP, .nil, Nat.zero_le _, by rw [List.drop_zero]; exact q1.out⟩ ?_ ?_ ?_
  · rintro i H' _ ⟨F', acc, av, g2, _⟩
    exact hG F' H' g2.ff g2.fh
  · rintro i x H' H'' hlt ⟨F', acc, av, g2, hP, fP', ra, la, cq⟩ y
    obtain ⟨F2, d, hd, g3, rd⟩ := hY i F' H' x H'' hlt g2.ff g2.fh y
    rw [List.drop_eq_getElem_cons hlt] at cq
    have hd' : ds[i] = d := by
      rw [List.getElem?_eq_getElem hlt] at hd
      exact Option.some.inj hd
    rw [hd'] at cq
    have rw0 : Rl K (wipeD ρ vs) (L2.wipe σ vs) F2 H'' := (((rl.wipe vs).go g1).go g2).go g3
    have hP2 : H'' P = some (.lst av) := g3.hh _ _ hP
    have fP2 : F2 P = none := g3.nn P fP' (by rw [hP]; exact fun z => nomatch z)
    have g4 := g2.trans g3
    refine ⟨wipeD ρ vs, F2, d, _, rw0.len, g3.fh, rd, fun ρ' σ' us e1 e2 hu q2 => ?_, cq⟩
    have rl2 : Rl K ρ' σ' F2 H'' := by rw [e1, e2]; exact rw0.sets us fun u hu' => (hu u hu').2
    refine ⟨by rw [e2, wipe_fold us _ fun u hu' => hjs _ (hu u hu').1, wipe_wipe], ρ', F2, _, _, rl2, xp0, fun b F3 H3 g5 q3 => ?_, q2⟩
    have g6 := g4.trans g5
    have hP3 : H3 P = some (.lst av) := g5.hh _ _ hP2
    have fP3 : F3 P = none := g5.nn P fP2 (by rw [hP2]; exact fun z => nomatch z)
    cases b with
    | false =>
      rw [ifP_f] at q3
      refine iteF ?_
      exact ⟨F3, acc, av, g6, hP3, fP3, (ra.mono g3.ff).mono g5.ff, Nat.le_succ_of_le la, q3⟩
    | true =>
      rw [ifP_t] at q3
      refine iteT ?_
      refine ⟨ρ', F3, _, _, rl2.go g5, xp0, fun yd yv F4 H4 g7 ry q4 => ?_, q3⟩
      have hP4 : H4 P = some (.lst av) := g7.hh _ _ hP3
      have fP4 : F4 P = none := g7.nn P fP3 (by rw [hP3]; exact fun z => nomatch z)
      refine ⟨av, hP4, by omega, F4, acc ++ [yd], av ++ [yv], go_acc (g6.trans g7) nP hP4 fP4, upd_same, fP4, (((ra.mono g3.ff).mono g5.ff).mono g7.ff).append (.cons ry .nil), by rw [List.length_append, List.length_singleton]; omega, q4⟩
  · rintro H' ⟨F', acc, av, g2, hP, fP', ra, la, cq⟩
    rw [List.drop_length] at cq
    exact kk acc P av F' H' (g1.trans g2) (g1.hh.free nP) hP fP' (by omega) ra cq
theorem rn_lc {elt tg iter : Expr} {ifs : List Expr} {scope : Scope} {own : List (Str × Nat)} {pos : Pos} {ti : TDs} {g : DG} {js : List Nat} {tt : TDb} {te : TD} (hN : X.N.Nodup) (hi : RI X W tg iter ti) (ok : BlkOk X.N X.env.scope scope own)
    (hg : ∀ (s : Shared) (H : Hp) (C : Addr) (cl : List (Str × Addr)) (fp : List Addr), RG (X.blk s H scope (compEnvC scope cl C X.env) fp) tg js g)
    (ht : ∀ (s : Shared) (H : Hp) (C : Addr) (cl : List (Str × Addr)) (fp : List Addr), RTs (X.blk s H scope (compEnvC scope cl C X.env) fp) W0 ifs tt)
    (he : ∀ (s : Shared) (H : Hp) (C : Addr) (cl : List (Str × Addr)) (fp : List Addr), RE (X.blk s H scope (compEnvC scope cl C X.env) fp) W0 elt te)
    {vs : List Nat} (hv : own.map (·.2) = vs := by rfl) (hjs : ∀ i ∈ js, i ∈ vs := by decide) (hc : X.calm = true := by rfl) (hs : ∀ x, foldedSetIterable iter X.env x = pure x := by intro _; rfl) :
    RN X W (.ListComp elt [⟨tg, iter, ifs, 0⟩] scope pos) (dLcN ti g tt te vs) := by
  subst hv
  obtain ⟨wi, h1, h2⟩ := hi.run
  exact ⟨_, pe_lc hc hN h1 ok (fun s H C cl fp => (hg s H C cl fp).lift) (fun s H C cl fp => (ht s H C cl fp).lift) (fun s H C cl fp => (he s H C cl fp).lift) hs, fun ρ σ F H Qd E Q rl xp kk q => lc_run hjs h2 rl xp kk q⟩
/-! ### other new lists -/
theorem rn_lst {es : List Expr} {ts : TDs} {pos : Pos} (h : RA X W es ts) : RN X W (.List es pos) (fun ρ Q E => ts ρ (fun ds => few ds ∧ Q ds) E) := by
  obtain ⟨te, h1, h2⟩ := h.run
  refine ⟨_, pe_lst h1, fun ρ σ F H Qd E Q rl xp kk q => h2 ρ σ F H _ E _ rl xp (fun ds vs F1 H1 g1 r1 q1 => ⟨few_line r1 q1.1, fun p np => ?_⟩) q⟩
  have g := g1.trans (F2 := F1) (H2 := upd H1 p (.lst vs)) ⟨SameF.refl _, same_upd np, g1.fh.trans (same_upd np), fun _ h _ => h⟩
  exact kk ds p vs F1 _ g (g1.hh.free np) upd_same (g1.fh.free np) (few_line r1 q1.1) r1 q1.2
theorem go_new {F : Fz} {H : Hp} {p : Addr} {o : HO} (e : Same F H) (np : H p = none) : Go F H F (upd H p o) := ⟨SameF.refl _, same_upd np, e.trans (same_upd np), fun _ h _ => h⟩
end
end Dl

/-! The D-layer, part 8: statements, defs. -/
namespace Dl
open PySem PySem.Spec
open PyProof.Rows L2
/-- what is wanted behind a statement, by trees -/
structure DE where
  nx : Env' → Prop
  rt : EQ
  bk : Env' → Prop
  ct : Env' → Prop
  ex : Env' → EQ
  rt1 : List D → Prop
  rt2 : List D → List D → Prop
/-- a new list, known to nobody else -/
def OwL (K : PySem.W.Frag) (F : Fz) (H H0 : Hp) (ds : List D) (p : Addr) : Prop := H0 p = none ∧ F p = none ∧ ∃ vs, H p = some (.lst vs) ∧ vs.length ≤ sizeLine ∧ Reps K F ds vs
abbrev DS := DE → Env' → Prop
structure Cnt (K : PySem.W.Frag) (W : WX) (F0 : Fz) (H0 : Hp) (d : DE) (D : Ends) : Prop where
  nx : ∀ ρ σ F H, Ent K F0 H0 ρ σ F H → d.nx ρ → D.nx σ H
  rt : ∀ x v F H, Go F0 H0 F H → Rep K F x v → d.rt x → D.rt v H
  bk : ∀ ρ σ F H, Ent K F0 H0 ρ σ F H → d.bk ρ → D.bk σ H
  ct : ∀ ρ σ F H, Ent K F0 H0 ρ σ F H → d.ct ρ → D.ct σ H
  ex : ∀ ρ σ F H, Ent K F0 H0 ρ σ F H → XP K W σ F H (d.ex ρ)
  rt1 : ∀ ds p F H, Go F0 H0 F H → OwL K F H H0 ds p → d.rt1 ds → D.rt (.ref p) H
  rt2 : ∀ ds es t p q F H, Go F0 H0 F H → H t = some (.tup [.ref p, .ref q]) → p ≠ q → OwL K F H H0 ds p → OwL K F H H0 es q → d.rt2 ds es → D.rt (.ref t) H
/-- a later ground -/
theorem Ent.base {K : PySem.W.Frag} {F0 : Fz} {H0 : Hp} {F1 : Fz} {H1 : Hp} {ρ : Env'} {σ : L2.St} {F : Fz} {H : Hp} (g : Go F0 H0 F1 H1) (e : Ent K F1 H0 ρ σ F H) : Ent K F0 H0 ρ σ F H :=
  ⟨e.rl, ⟨g.ff.trans e.go.ff, e.go.hh, e.go.fh, fun p h1 h2 => e.go.nn p (g.nn p h1 h2) h2⟩, e.new⟩
theorem Ent.here {K : PySem.W.Frag} {F0 : Fz} {H0 : Hp} {ρ : Env'} {σ : L2.St} {F : Fz} {H : Hp} (e : Ent K F0 H0 ρ σ F H) : Ent K F H0 ρ σ F H :=
  ⟨e.rl, ⟨SameF.refl _, e.go.hh, e.go.fh, fun _ h _ => h⟩, e.new⟩
theorem Cnt.base {K : PySem.W.Frag} {W : WX} {F0 : Fz} {H0 : Hp} {F1 : Fz} {H1 : Hp} {d : DE} {D : Ends} (g : Go F0 H0 F1 H1) (c : Cnt K W F0 H0 d D) : Cnt K W F1 H0 d D :=
  ⟨fun ρ σ F H e q => c.nx ρ σ F H (e.base g) q, fun x v F H g' r q => c.rt x v F H ⟨g.ff.trans g'.ff, g'.hh, g'.fh, fun p h1 h2 => g'.nn p (g.nn p h1 h2) h2⟩ r q, fun ρ σ F H e q => c.bk ρ σ F H (e.base g) q, fun ρ σ F H e q => c.ct ρ σ F H (e.base g) q, fun ρ σ F H e => c.ex ρ σ F H (e.base g), fun ds p F H g' => c.rt1 ds p F H ⟨g.ff.trans g'.ff, g'.hh, g'.fh, fun p h1 h2 => g'.nn p (g.nn p h1 h2) h2⟩, fun ds es t p q F H g' => c.rt2 ds es t p q F H ⟨g.ff.trans g'.ff, g'.hh, g'.fh, fun p h1 h2 => g'.nn p (g.nn p h1 h2) h2⟩⟩
structure RS (X : Cx) (W : WX) (st : Stmt) (t : DS) : Prop where
  run : ∃ ts, PS X st ts ∧ ∀ (F0 : Fz) (H0 : Hp) (ρ : Env') (σ : L2.St) (F : Fz) (H : Hp) (D : Ends) (d : DE), Ent X.K F0 H0 ρ σ F H → Cnt X.K W F0 H0 d D → t d ρ → ts D σ H
structure RSs (X : Cx) (W : WX) (st : List Stmt) (t : DS) : Prop where
  run : ∃ ts, PSs X st ts ∧ ∀ (F0 : Fz) (H0 : Hp) (ρ : Env') (σ : L2.St) (F : Fz) (H : Hp) (D : Ends) (d : DE), Ent X.K F0 H0 ρ σ F H → Cnt X.K W F0 H0 d D → t d ρ → ts D σ H
section
variable {X : Cx} {W : WX} {st : Stmt} {rest : List Stmt} {e a b c : Expr} {es : List Expr} {t ta tb tc : TD} {ts u v : DS} {pos : Pos}
/-! ### blocks -/
def dNext : DS := fun d ρ => d.nx ρ
def dSq (t u : DS) : DS := fun d ρ => t { d with nx := u d } ρ
theorem rss_nil : RSs X W [] dNext := ⟨_, pss_nil, fun F0 H0 ρ σ F H D d e c q => c.nx ρ σ F H e q⟩
theorem rss_cons (h : RS X W st u) (hr : RSs X W rest v) : RSs X W (st :: rest) (dSq u v) := by
  obtain ⟨t1, h1, h2⟩ := h.run
  obtain ⟨t2, a1, a2⟩ := hr.run
  refine ⟨_, pss_cons h1 a1, fun F0 H0 ρ σ F H D d e c q => h2 F0 H0 ρ σ F H _ { d with nx := v d } e ⟨fun ρ σ F H e q => a2 F0 H0 ρ σ F H D d e c q, c.rt, c.bk, c.ct, c.ex, c.rt1, c.rt2⟩ q⟩
theorem rss_one (h : RS X W st u) : RSs X W [st] u := by
  obtain ⟨t1, h1, h2⟩ := h.run
  exact ⟨_, pss_one h1, h2⟩
def dRet (t : TD) : DS := fun d ρ => t ρ d.rt (d.ex ρ)
theorem rs_ret (h : RE X W e t) : RS X W (.Return (some e) pos) (dRet t) := by
  obtain ⟨te, h1, h2⟩ := h.run
  exact ⟨_, ps_ret h1, fun F0 H0 ρ σ F H D d e c q => h2 ρ σ F H _ _ _ e.rl (c.ex ρ σ F H e) (fun x v F1 H1 g r q => c.rt x v F1 H1 (e.go.trans g) r q) q⟩
def dIf (t : TDb) (u v : DS) : DS := fun d ρ => t ρ (fun b => ifP b (u d ρ) (v d ρ)) (d.ex ρ)
theorem rs_if {tb : TDb} {xs ys : List Stmt} (h : RT X W e tb) (ha : RSs X W xs u) (hb : RSs X W ys v) : RS X W (.If e xs ys pos) (dIf tb u v) := by
  obtain ⟨te, h1, h2⟩ := h.run
  obtain ⟨t1, a1, a2⟩ := ha.run
  obtain ⟨t2, b1, b2⟩ := hb.run
  refine ⟨_, ps_if h1 a1 b1, fun F0 H0 ρ σ F H D d e c q => h2 ρ σ F H _ _ _ e.rl (c.ex ρ σ F H e) (fun k F1 H1 g q => ?_) q⟩
  cases k with
  | true => exact a2 F0 H0 ρ σ F1 H1 D d (e.step g) c q
  | false => exact b2 F0 H0 ρ σ F1 H1 D d (e.step g) c q
/-! ### stores -/
theorem Ent.set {K : PySem.W.Frag} {F0 : Fz} {H0 : Hp} {ρ : Env'} {σ : L2.St} {F : Fz} {H : Hp} (e : Ent K F0 H0 ρ σ F H) (i : Nat) {d : D} {v : V} (r : Rep K F d v) : Ent K F0 H0 (ρ.set i (.sh d)) (σ.set i (some v)) F H := by
  refine ⟨e.rl.set i r, e.go, fun j s p h o hs => ?_⟩
  by_cases hj : i = j
  · subst hj
    by_cases hl : i < ρ.length
    · rw [List.getElem?_set_self hl] at h; cases h; cases o
    · rw [List.getElem?_eq_none (by rw [List.length_set]; omega)] at h; cases h
  · rw [List.getElem?_set_ne hj] at h hs
    exact e.new j s p h o hs
theorem Ent.sets {K : PySem.W.Frag} {F0 : Fz} {H0 : Hp} {F : Fz} {H : Hp} : ∀ (us : List (Nat × D × V)) {ρ : Env'} {σ : L2.St}, Ent K F0 H0 ρ σ F H → (∀ u ∈ us, Rep K F u.2.1 u.2.2) → Ent K F0 H0 (us.foldl (fun r u => r.set u.1 (.sh u.2.1)) ρ) (us.foldl (fun s u => s.set u.1 (some u.2.2)) σ) F H
  | [], _, _, r, _ => r
  | u :: us, _, _, r, h => Ent.sets us (r.set u.1 (h u List.mem_cons_self)) fun v hv => h v (List.mem_cons_of_mem _ hv)
def dSet (i : Nat) (t : TD) : DS := fun d ρ => t ρ (fun x => d.nx (ρ.set i (.sh x))) (d.ex ρ)
theorem rs_set (i : Nat) {x : Str} {pos' : Pos} (hN : X.N.Nodup) (h : RE X W e t) (hi : X.N[i]? = some x := by rfl) (hx : Loc X.env.scope x := by first | exact Or.inl rfl | exact Or.inr rfl) (hs : swapsWith e (some (.Name x pos')) pos.line X.env = pure false := by rfl) (hf : X.fn x = true ∨ X.env.scope.names.lookup x = some .local := by first | exact .inl rfl | exact .inr rfl) :
    RS X W (.Assign [.Name x pos'] e pos) (dSet i t) := by
  obtain ⟨te, h1, h2⟩ := h.run
  exact ⟨_, ps_set hN hi hx h1 hs hf, fun F0 H0 ρ σ F H D d e c q => h2 ρ σ F H _ _ _ e.rl (c.ex ρ σ F H e) (fun x v F1 H1 g r q => c.nx _ _ F1 H1 ((e.step g).set i r) q) q⟩
/-- a list of one's own at a name -/
theorem Ent.setOw {K : PySem.W.Frag} {F0 : Fz} {H0 : Hp} {ρ : Env'} {σ : L2.St} {F : Fz} {H : Hp} {F1 : Fz} {H1 : Hp} (e : Ent K F0 H0 ρ σ F H) (g : Go F H F1 H1) (i : Nat) {ds : List D} {p : Addr} {vs : List V} (np : H p = none) (hp : H1 p = some (.lst vs)) (fp : F1 p = none) (z : vs.length ≤ sizeLine) (r : Reps K F1 ds vs) :
    Ent K F0 H0 (ρ.set i (.ow ds)) (σ.set i (some (.ref p))) F1 H1 := by
  have e1 := e.step g
  have lt : ∀ {s : Sl}, (ρ.set i (.ow ds))[i]? = some s → i < ρ.length := fun h => by
    have z := (List.getElem?_eq_some_iff.mp h).1
    rw [List.length_set] at z; exact z
  have at_i : ∀ {s : Sl}, (ρ.set i (.ow ds))[i]? = some s → s = .ow ds ∧ (σ.set i (some (.ref p)))[i]? = some (some (.ref p)) := fun h => by
    have l := lt h
    rw [List.getElem?_set_self l] at h
    exact ⟨(Option.some.inj h).symm, List.getElem?_set_self (by rw [← e.rl.len]; exact l)⟩
  have ne : ∀ {j : Nat}, i ≠ j → (ρ.set i (.ow ds))[j]? = ρ[j]? ∧ (σ.set i (some (.ref p)))[j]? = σ[j]? := fun h => ⟨List.getElem?_set_ne h, List.getElem?_set_ne h⟩
  have old : ∀ {j : Nat} {s : Sl} {q : Addr}, ρ[j]? = some s → s.own = true → σ[j]? = some (some (.ref q)) → q ≠ p := fun {j s q} h o hs z => by
    subst z
    cases s with
    | no => cases o
    | sh d => cases o
    | ow es =>
      obtain ⟨p', _, h1, h2, _⟩ := e.rl.ow j es h
      rw [h1] at hs; cases hs; rw [np] at h2; cases h2
    | oi C fs =>
      obtain ⟨p', _, _, h1, h2, _⟩ := e.rl.oi j C fs h
      rw [h1] at hs; cases hs; rw [np] at h2; cases h2
    | od kvs =>
      obtain ⟨p', _, h1, h2, _⟩ := e.rl.od j kvs h
      rw [h1] at hs; cases hs; rw [np] at h2; cases h2
  refine ⟨⟨by rw [List.length_set, List.length_set]; exact e.rl.len, e1.rl.fh, fun j d h => ?_, fun j es h => ?_, fun j C fs h => ?_, fun j kvs h => ?_, fun j k s s' w h1 o1 h2 o2 h3 h4 => ?_⟩, e1.go, fun j s q h o hs => ?_⟩
  · by_cases hj : i = j
    · subst hj; cases (at_i h).1
    · rw [(ne hj).1] at h; rw [(ne hj).2]; exact e1.rl.sh j d h
  · by_cases hj : i = j
    · subst hj
      obtain ⟨q1, q2⟩ := at_i h
      cases q1
      exact ⟨p, vs, q2, hp, fp, z, r⟩
    · rw [(ne hj).1] at h; rw [(ne hj).2]; exact e1.rl.ow j es h
  · by_cases hj : i = j
    · subst hj; cases (at_i h).1
    · rw [(ne hj).1] at h; rw [(ne hj).2]; exact e1.rl.oi j C fs h
  · by_cases hj : i = j
    · subst hj; cases (at_i h).1
    · rw [(ne hj).1] at h; rw [(ne hj).2]; exact e1.rl.od j kvs h
  · by_cases hj : i = j
    · by_cases hk : i = k
      · rw [← hj, hk]
      · subst hj
        rw [(at_i h1).2] at h3; cases h3
        rw [(ne hk).1] at h2; rw [(ne hk).2] at h4
        exact absurd rfl (old h2 o2 h4)
    · by_cases hk : i = k
      · subst hk
        rw [(at_i h2).2] at h4; cases h4
        rw [(ne hj).1] at h1; rw [(ne hj).2] at h3
        exact absurd rfl (old h1 o1 h3)
      · rw [(ne hj).1] at h1; rw [(ne hj).2] at h3; rw [(ne hk).1] at h2; rw [(ne hk).2] at h4
        exact e.rl.inj j k s s' w h1 o1 h2 o2 h3 h4
  · by_cases hj : i = j
    · subst hj
      rw [(at_i h).2] at hs; cases hs
      exact e.go.hh.free np
    · rw [(ne hj).1] at h; rw [(ne hj).2] at hs; exact e.new j s q h o hs
def dOwn (i : Nat) (t : TDs) : DS := fun d ρ => t ρ (fun x => d.nx (ρ.set i (.ow x))) (d.ex ρ)
theorem rs_own (i : Nat) {x : Str} {pos' : Pos} {tn : TDs} (hN : X.N.Nodup) (h : RN X W e tn) (hi : X.N[i]? = some x := by rfl) (hx : Loc X.env.scope x := by first | exact Or.inl rfl | exact Or.inr rfl) (hs : swapsWith e (some (.Name x pos')) pos.line X.env = pure false := by rfl) (hf : X.fn x = true ∨ X.env.scope.names.lookup x = some .local := by first | exact .inl rfl | exact .inr rfl) :
    RS X W (.Assign [.Name x pos'] e pos) (dOwn i tn) := by
  obtain ⟨te, h1, h2⟩ := h.run
  exact ⟨_, ps_set hN hi hx h1 hs hf, fun F0 H0 ρ σ F H D d e c q => h2 ρ σ F H _ _ _ e.rl (c.ex ρ σ F H e) (fun ds p vs F1 H1 g np hp fp z r q => c.nx _ _ F1 H1 (e.setOw g i np hp fp z r) q) q⟩
theorem rs_setLc (i : Nat) {y : Str} {py : Pos} {elt tg iter : Expr} {ifs : List Expr} {scope : Scope} {own : List (Str × Nat)} {pos' spos : Pos} {ti : TDs} {g : DG} {js : List Nat} {tt : TDb} {te : TD} (hN : X.N.Nodup) (hi : RI X W tg iter ti) (ok : BlkOk X.N X.env.scope scope own)
    (hg : ∀ (s : Shared) (H : Hp) (C : Addr) (cl : List (Str × Addr)) (fp : List Addr), RG (X.blk s H scope (compEnvC scope cl C X.env) fp) tg js g)
    (ht : ∀ (s : Shared) (H : Hp) (C : Addr) (cl : List (Str × Addr)) (fp : List Addr), RTs (X.blk s H scope (compEnvC scope cl C X.env) fp) W0 ifs tt)
    (he : ∀ (s : Shared) (H : Hp) (C : Addr) (cl : List (Str × Addr)) (fp : List Addr), RE (X.blk s H scope (compEnvC scope cl C X.env) fp) W0 elt te)
    (hsw : swapsWith (.ListComp elt [⟨tg, iter, ifs, 0⟩] scope pos') (some (.Name y py)) spos.line X.env = pure true)
    (hy : X.N[i]? = some y := by rfl) (hyl : X.env.scope.names.lookup y = some .local := by rfl)
    {vs : List Nat} (hv : own.map (·.2) = vs := by rfl) (hjs : ∀ i ∈ js, i ∈ vs := by decide) (hc : X.calm = true := by rfl) (hs : ∀ x, foldedSetIterable iter X.env x = pure x := by intro _; rfl) :
    RS X W (.Assign [.Name y py] (.ListComp elt [⟨tg, iter, ifs, 0⟩] scope pos') spos) (dSet i (dLc ti g tt te vs)) := by
  subst hv
  obtain ⟨wi, h1, h2⟩ := hi.run
  refine ⟨_, ps_setLc (g := liftG X.K js g) (tt := liftT X.K W0 tt) (te := liftE X.K W0 te) hc hN hy hyl hsw h1 ok (fun s H C cl fp => (hg s H C cl fp).lift) (fun s H C cl fp => (ht s H C cl fp).lift) (fun s H C cl fp => (he s H C cl fp).lift) hs, fun F0 H0 ρ σ F H D d e c q => ?_⟩
  exact lc_run (Q := fun x H1 => gName i x σ H1 D.nx) hjs h2 e.rl (c.ex ρ σ F H e) (fun ds p vs F1 H1 g np hp fp z r q => c.nx _ _ _ H1 ((e.step (g.freeze np hp fp)).set i (.lst upd_same (Fz.upd_p _ _ _) z (r.mono (same_updF fp)))) q) q
/-- a list of one's own is changed -/
theorem Ent.putOw {K : PySem.W.Frag} {F0 : Fz} {H0 : Hp} {ρ : Env'} {σ : L2.St} {F : Fz} {H : Hp} (e : Ent K F0 H0 ρ σ F H) {i : Nat} {ds es : List D} {p : Addr} {ws : List V} (hi : ρ[i]? = some (.ow ds)) (hs : σ[i]? = some (some (.ref p))) (z : ws.length ≤ sizeLine) (r : Reps K F es ws) :
    Ent K F0 H0 (ρ.set i (.ow es)) σ F (upd H p (.lst ws)) := by
  obtain ⟨p', vs, h1, h2, h3, h4, h5⟩ := e.rl.ow i ds hi
  rw [hs] at h1; cases h1
  have h0 := e.new i _ p hi rfl hs
  have il := (List.getElem?_eq_some_iff.mp hi).1
  have at_i : ∀ {s : Sl}, (ρ.set i (.ow es))[i]? = some s → s = .ow es := fun h => by
    rw [List.getElem?_set_self il] at h; exact (Option.some.inj h).symm
  have ne : ∀ {j : Nat}, i ≠ j → (ρ.set i (.ow es))[j]? = ρ[j]? := fun h => List.getElem?_set_ne h
  have np : ∀ {j : Nat} {s : Sl} {q : Addr}, i ≠ j → ρ[j]? = some s → s.own = true → σ[j]? = some (some (.ref q)) → q ≠ p := fun {j s q} hj h o hq z => by
    subst z
    exact hj (e.rl.inj i j _ s _ hi rfl h o hs hq)
  have sm : ∀ {A : Hp}, A p = none → Same A H → Same A (upd H p (.lst ws)) := fun n s b u q => by
    rw [upd_ne (ne_of_none q n)]; exact s b u q
  refine ⟨⟨by rw [List.length_set]; exact e.rl.len, sm h3 e.rl.fh, fun j d h => ?_, fun j fs h => ?_, fun j C fs h => ?_, fun j kvs h => ?_, fun j k s s' w g1 o1 g2 o2 g3 g4 => ?_⟩, ⟨e.go.ff, sm h0 e.go.hh, sm h3 e.rl.fh, e.go.nn⟩, fun j s q h o hq => ?_⟩
  · by_cases hj : i = j
    · subst hj; cases at_i h
    · rw [ne hj] at h; exact e.rl.sh j d h
  · by_cases hj : i = j
    · subst hj
      cases at_i h
      exact ⟨p, ws, hs, upd_same, h3, z, r⟩
    · rw [ne hj] at h
      obtain ⟨q, us, g1, g2, g3⟩ := e.rl.ow j fs h
      exact ⟨q, us, g1, by rw [upd_ne (np hj h rfl g1)]; exact g2, g3⟩
  · by_cases hj : i = j
    · subst hj; cases at_i h
    · rw [ne hj] at h
      obtain ⟨q, dx, us, g1, g2, g3⟩ := e.rl.oi j C fs h
      exact ⟨q, dx, us, g1, by rw [upd_ne (np hj h rfl g1)]; exact g2, g3⟩
  · by_cases hj : i = j
    · subst hj; cases at_i h
    · rw [ne hj] at h
      obtain ⟨q, us, g1, g2, g3⟩ := e.rl.od j kvs h
      exact ⟨q, us, g1, by rw [upd_ne (np hj h rfl g1)]; exact g2, g3⟩
  · have low : ∀ {j : Nat} {s : Sl}, (ρ.set i (.ow es))[j]? = some s → s.own = true → ∃ s', ρ[j]? = some s' ∧ s'.own = true := fun {j s} h o => by
      by_cases hj : i = j
      · subst hj; exact ⟨_, hi, rfl⟩
      · rw [ne hj] at h; exact ⟨s, h, o⟩
    obtain ⟨s1, q1, q2⟩ := low g1 o1
    obtain ⟨s2, q3, q4⟩ := low g2 o2
    exact e.rl.inj j k s1 s2 w q1 q2 q3 q4 g3 g4
  · by_cases hj : i = j
    · subst hj; rw [hs] at hq; cases hq; exact h0
    · rw [ne hj] at h; exact e.new j s q h o hq
/-- where a list of one's own is wanted -/
def owAt (ρ : Env') (i : Nat) (Q : List D → Prop) : Prop := match ρ[i]? with
  | some (.ow ds) => Q ds
  | _ => False
theorem owAt_inv {ρ : Env'} {i : Nat} {Q : List D → Prop} (h : owAt ρ i Q) : ∃ ds, ρ[i]? = some (.ow ds) ∧ Q ds := by
  unfold owAt at h
  split at h
  · exact ⟨_, by assumption, h⟩
  · exact h.elim
/-- x.append(e), x a list of one's own -/
def dApp (i : Nat) (t : TD) : DS := fun d ρ => owAt ρ i fun ds => t ρ (fun y => few (ds ++ [y]) ∧ d.nx (ρ.set i (.ow (ds ++ [y])))) (d.ex ρ)
theorem rs_app (i : Nat) {x : Str} {p1 apos cpos : Pos} (h : RE X W e t) (hN : X.N[i]? = some x := by rfl) (hv : Vis X.env.scope x := by first | exact Or.inl rfl | exact Or.inr (Or.inl rfl) | exact Or.inr (Or.inr rfl))
    (hd : (x == ("__debug__" : Str)) = false := by decide) (hcd : (x == ("__classdict__" : Str)) = false := by decide)
    (hbase : attributeBase (.Name x p1) "append" X.env (eval (.Name x p1) X.env) = eval (.Name x p1) X.env := by rfl)
    (hfew : ((backTo cpos (starEach [e] X.env)).all (fun x => !x.1) && (backToKw cpos (keywordEach [] X.env)).all (fun x => x.1.isSome)
      && decide (([e] : List Expr).length + ([] : List Keyword).length + (if ([] : List Keyword).isEmpty then 0 else 1) < 30)) = true := by rfl)
    (hline : (apos.endLine == cpos.line) = true := by rfl) (hs : starEach [e] X.env = (false, eval e X.env) :: starEach [] X.env := by rfl) (hplain : (backTo cpos (starEach [] X.env)).any (·.1) = false := by rfl)
    (hsw : swapsWith (.Call (.Attribute (.Name x p1) "append" apos) [e] [] cpos) none pos.line X.env = pure false := by rfl) :
    RS X W (.Expr (.Call (.Attribute (.Name x p1) "append" apos) [e] [] cpos) pos) (dApp i t) := by
  obtain ⟨te, h1, h2⟩ := h.run
  refine ⟨_, ps_expr (pe_bm PySem.F.plainAttrs_list PySem.F.slot_list_append PySem.F.type_list_append mt_append (pe_var hN hv hd hcd) (pa_cons h1 pa_nil hs) hbase hfew hline hs hplain) hsw, fun F0 H0 ρ σ F H D d e c q => ?_⟩
  obtain ⟨ds, ho, q⟩ := owAt_inv q
  obtain ⟨p, vs, g1, g2, g3, g4, g5⟩ := e.rl.ow i ds ho
  refine ⟨_, g1, .inl ⟨rfl, vs, SqL.of g2⟩, ?_⟩
  refine h2 ρ σ F H _ _ _ e.rl (c.ex ρ σ F H e) (fun y v F1 H1 g r q1 => ?_) q
  have e1 := e.step g
  obtain ⟨p', vs', g1', g2', g3', g4', g5'⟩ := e1.rl.ow i ds ho
  rw [g1] at g1'; cases g1'
  have zz : (vs' ++ [v]).length ≤ sizeLine := few_line (g5'.append (.cons r .nil)) q1.1
  refine ⟨p, vs', v, rfl, rfl, g2', by rw [List.length_append, List.length_singleton] at zz; omega, ?_⟩
  exact c.nx _ _ F1 _ (e1.putOw ho g1 zz (g5'.append (.cons r .nil))) q1.2
/-- a list of one's own is given out of hand -/
def dFrz (i : Nat) (u : DS) : DS := fun d ρ => match ρ[i]? with
  | some (.ow ds) => u d (ρ.set i (.sh (.lst ds)))
  | _ => u d ρ
theorem rss_frz (i : Nat) {sts : List Stmt} (h : RSs X W sts u) : RSs X W sts (dFrz i u) := by
  obtain ⟨ts, h1, h2⟩ := h.run
  refine ⟨ts, h1, fun F0 H0 ρ σ F H D d en c q => ?_⟩
  unfold dFrz at q
  split at q
  · rename_i ds ho
    obtain ⟨p, vs, g1, g2, g3, g4, g5⟩ := en.rl.ow i ds ho
    have h0 := en.new i _ p ho rfl g1
    have sm : SameF F (F.upd p (.lst vs)) := same_updF g3
    have fz : Same (F.upd p (.lst vs)) H := fun b u q => by
      rw [Fz.upd_h] at q
      by_cases z : b = p
      · subst z; rw [upd_same] at q; cases q; exact g2
      · rw [upd_ne z] at q; exact en.rl.fh _ _ q
    have il := (List.getElem?_eq_some_iff.mp ho).1
    have at_i : ∀ {s : Sl}, (ρ.set i (.sh (.lst ds)))[i]? = some s → s = .sh (.lst ds) := fun h => by
      rw [List.getElem?_set_self il] at h; exact (Option.some.inj h).symm
    have ne : ∀ {j : Nat}, i ≠ j → (ρ.set i (.sh (.lst ds)))[j]? = ρ[j]? := fun h => List.getElem?_set_ne h
    have np : ∀ {j : Nat} {s : Sl} {q : Addr}, i ≠ j → ρ[j]? = some s → s.own = true → σ[j]? = some (some (.ref q)) → q ≠ p := fun {j s q} hj h o hq z => by
      subst z
      exact hj (en.rl.inj i j _ s _ ho rfl h o g1 hq)
    refine h2 F0 H0 _ σ (F.upd p (.lst vs)) H D d ⟨⟨by rw [List.length_set]; exact en.rl.len, fz, fun j d h => ?_, fun j fs h => ?_, fun j C fs h => ?_, fun j kvs h => ?_, fun j k s s' w q1 o1 q2 o2 q3 q4 => ?_⟩, ⟨en.go.ff.trans sm, en.go.hh, fz, fun q q1 q2 => ?_⟩, fun j s q h o hq => ?_⟩ c q
    · by_cases hj : i = j
      · subst hj
        cases at_i h
        exact ⟨_, g1, .lst upd_same (F.upd_p p _) g4 (g5.mono sm)⟩
      · rw [ne hj] at h
        obtain ⟨v, q1, q2⟩ := en.rl.sh j d h
        exact ⟨v, q1, q2.mono sm⟩
    · by_cases hj : i = j
      · subst hj; cases at_i h
      · rw [ne hj] at h
        obtain ⟨q, us, q1, q2, q3, q4, q5⟩ := en.rl.ow j fs h
        exact ⟨q, us, q1, q2, by rw [Fz.upd_h, upd_ne (np hj h rfl q1)]; exact q3, q4, q5.mono sm⟩
    · by_cases hj : i = j
      · subst hj; cases at_i h
      · rw [ne hj] at h
        obtain ⟨q, dx, us, q1, q2, q3, q5, q6⟩ := en.rl.oi j C fs h
        exact ⟨q, dx, us, q1, q2, by rw [Fz.upd_h, upd_ne (np hj h rfl q1)]; exact q3, q5.mono sm, q6⟩
    · by_cases hj : i = j
      · subst hj; cases at_i h
      · rw [ne hj] at h
        obtain ⟨q, us, q1, q2, q3, q5⟩ := en.rl.od j kvs h
        exact ⟨q, us, q1, q2, by rw [Fz.upd_h, upd_ne (np hj h rfl q1)]; exact q3, q5.mono sm⟩
    · have low : ∀ {j : Nat} {s : Sl}, (ρ.set i (.sh (.lst ds)))[j]? = some s → s.own = true → ρ[j]? = some s := fun {j s} h o => by
        by_cases hj : i = j
        · subst hj; rw [at_i h] at o; cases o
        · rw [ne hj] at h; exact h
      exact en.rl.inj j k s s' w (low q1 o1) o1 (low q2 o2) o2 q3 q4
    · have : q ≠ p := fun z => by rw [z] at q2; exact q2 h0
      rw [Fz.upd_h, upd_ne this]; exact en.go.nn q q1 q2
    · by_cases hj : i = j
      · subst hj; rw [at_i h] at o; cases o
      · rw [ne hj] at h; exact en.new j s q h o hq
  · exact h2 F0 H0 ρ σ F H D d en c q
end
end Dl

/-! The D-layer, part 9: targets, loops, raise, defs. -/
namespace Dl
open PySem PySem.Spec
open PyProof.Rows L2
section
variable {X : Cx} {W : WX} {st : Stmt} {rest : List Stmt} {e a b c tg : Expr} {es : List Expr} {t ta tb tc : TD} {ts : TDs} {u v : DS} {pos : Pos}
/-! ### (a, b) = e; a, b = x, y -/
def dAsg (t : TD) (g : DG) : DS := fun d ρ => t ρ (fun x => g x ρ d.nx) (d.ex ρ)
theorem rs_asg {js : List Nat} {g : DG} (h : RE X W e t) (hg : RG X tg js g) (hs : swapsWithSole [tg] e pos.line X.env = pure false := by rfl) (hw : swappedStores [tg] e X.env = pure none := by rfl)
    (h1 : (assignEach [tg] X.env).map (·.2) = [assign tg X.env] := by rfl) : RS X W (.Assign [tg] e pos) (dAsg t g) := by
  obtain ⟨te, e1, e2⟩ := h.run
  obtain ⟨g', g1, g2⟩ := hg.run
  refine ⟨_, ps_asg e1 g1 hs hw h1, fun F0 H0 ρ σ F H D d en c q => e2 ρ σ F H _ _ _ en.rl (c.ex ρ σ F H en) (fun x v F1 H1 g r q1 => ?_) q⟩
  refine g2 ρ σ F1 H1 x v _ _ en.rl.len g.fh r (fun ρ' σ' us e3 e4 hu q2 => ?_) q1
  rw [e4]
  rw [e3] at q2
  exact c.nx _ _ F1 H1 ((en.step g).sets us fun u hu' => (hu u hu').2) q2
/-! ### for -/
def loopR (g : DG) (tb : DS) (d : DE) : List D → Env' → Prop
  | [], ρ => d.nx ρ
  | x :: xs, ρ => g x ρ fun ρ2 => tb { d with nx := loopR g tb d xs, ct := loopR g tb d xs, bk := d.nx } ρ2
/-- the same, shut: a reading stops there -/
structure loopD (g : DG) (tb : DS) (d : DE) (xs : List D) (ρ : Env') : Prop where
  out : loopR g tb d xs ρ
theorem loopD_eq (g : DG) (tb : DS) (d : DE) (xs : List D) : loopD g tb d xs = loopR g tb d xs := funext fun _ => propext ⟨fun h => h.out, fun h => ⟨h⟩⟩
def dFor (ti : TDs) (g : DG) (tb : DS) : DS := fun d ρ => ti ρ (fun xs => loopD g tb d xs ρ) (d.ex ρ)
theorem rs_for {iter : Expr} {body : List Stmt} {js : List Nat} {ti : TDs} {g : DG} (hp : PassesOwn (model X.prog X.w) X.A X.env X.xe) (hi : RI X W tg iter ti) (hg : RG X tg js g) (hb : RSs X W body u) (hc : X.calm = true := by rfl)
    (hs : ∀ x, foldedSetIterable iter X.env x = pure x := by intro _; rfl) : RS X W (.For tg iter body [] pos) (dFor ti g u) := by
  obtain ⟨wi, i1, i2⟩ := hi.run
  obtain ⟨tg', g1, g2⟩ := hg.run
  obtain ⟨ts, b1, b2⟩ := hb.run
  refine ⟨_, ps_for hp hc i1 g1 b1 hs, fun F0 H0 ρ σ F H D d en c q => ?_⟩
  refine i2 ρ σ F H _ _ _ en.rl (c.ex ρ σ F H en) (fun xs J F1 H1 gg jw zl q1 => ?_) q
  obtain ⟨G, Y, w, hG, hY⟩ := jw.go
  have en1 := en.step gg
  have cb := c.base en1.go
  refine for_it w (fun i σ' H' => ∃ ρ' F', Ent X.K F1 H0 ρ' σ' F' H' ∧ loopR g u d (xs.drop i) ρ') ⟨ρ, F1, en1.here, by rw [List.drop_zero]; exact q1.out⟩ ?_ ?_ ?_
  · rintro i σ' H' _ ⟨ρ', F', en', _⟩
    exact hG F' H' en'.go.ff en'.rl.fh
  · rintro i x σ' H' H'' hlt ⟨ρ', F', en', q2⟩ y
    obtain ⟨F2, xd, hd, g3, rx⟩ := hY i F' H' x H'' hlt en'.go.ff en'.rl.fh y
    rw [List.drop_eq_getElem_cons hlt] at q2
    have hd' : xs[i] = xd := by
      rw [List.getElem?_eq_getElem hlt] at hd
      exact Option.some.inj hd
    rw [hd'] at q2
    have en2 := en'.step g3
    refine g2 ρ' σ' F2 H'' xd x _ _ en2.rl.len g3.fh rx (fun ρ2 σ2 us e3 e4 hu q3 => ?_) q2
    have en3 : Ent X.K F1 H0 ρ2 σ2 F2 H'' := by
      rw [e3, e4]; exact en2.sets us fun u hu' => (hu u hu').2
    refine b2 F1 H0 ρ2 σ2 F2 H'' _ { d with nx := loopR g u d (xs.drop (i + 1)), ct := loopR g u d (xs.drop (i + 1)), bk := d.nx } en3 ⟨fun ρ σ F H e q => ⟨ρ, F, e, q⟩, cb.rt, cb.nx, fun ρ σ F H e q => ⟨ρ, F, e, q⟩, cb.ex, cb.rt1, cb.rt2⟩ q3
  · rintro σ' H' ⟨ρ', F', en', q2⟩
    rw [List.drop_length] at q2
    exact cb.nx ρ' σ' F' H' en' q2
/-! ### while -/
def dWhile (c : TDb) (tb : DS) : DS := fun d ρ => ∃ I : Nat → Env' → Prop, (∃ m, I m ρ) ∧ ∀ m ρ, I m ρ →
  c ρ (fun b => ifP b (tb { d with nx := fun ρ' => ∃ m', m' < m ∧ I m' ρ', ct := fun ρ' => ∃ m', m' < m ∧ I m' ρ', bk := d.nx } ρ) (d.nx ρ)) (d.ex ρ)
theorem rs_while {tcc : TDb} {body : List Stmt} (hp : PassesOwn (model X.prog X.w) X.A X.env X.xe) (hc : RT X W e tcc) (hb : RSs X W body u) : RS X W (.While e body [] pos) (dWhile tcc u) := by
  obtain ⟨tt, c1, c2⟩ := hc.run
  obtain ⟨ts, b1, b2⟩ := hb.run
  refine ⟨_, ps_while hp c1 b1, fun F0 H0 ρ σ F H D d en c q => ?_⟩
  obtain ⟨I, ⟨m, hm⟩, turn⟩ := q
  refine ⟨fun m σ H => ∃ ρ F, Ent X.K F0 H0 ρ σ F H ∧ I m ρ, ⟨m, ρ, F, en, hm⟩, ?_⟩
  rintro m σ H ⟨ρ, F, en, hI⟩
  refine c2 ρ σ F H _ _ _ en.rl (c.ex ρ σ F H en) (fun k F1 H1 g q1 => ?_) (turn m ρ hI)
  cases k with
  | false => exact c.nx ρ σ F1 H1 (en.step g) q1
  | true =>
    refine ⟨fun σ' H' => ∃ ρ' F' m', m' < m ∧ Ent X.K F0 H0 ρ' σ' F' H' ∧ I m' ρ', fun σ' H' ⟨ρ', F', m', l, e', h'⟩ => ⟨m', l, ρ', F', e', h'⟩, ?_⟩
    exact b2 F0 H0 ρ σ F1 H1 _ { d with nx := fun ρ' => ∃ m', m' < m ∧ I m' ρ', ct := fun ρ' => ∃ m', m' < m ∧ I m' ρ', bk := d.nx } (en.step g)
      ⟨fun ρ σ F H e ⟨m', l, h⟩ => ⟨ρ, F, m', l, e, h⟩, c.rt, c.nx, fun ρ σ F H e ⟨m', l, h⟩ => ⟨ρ, F, m', l, e, h⟩, c.ex, c.rt1, c.rt2⟩ q1
/-! ### raise X('..'), X of one's own without __init__ -/
def dRaise (C : Addr) : DS := fun d ρ => d.ex ρ (.ins C [])
/-- what a raise asks of the text about its class -/
structure ExCls (K : PySem.W.Frag) (mg : Str → Option Value) (x : Str) (C : Addr) : Prop where
  ix : PySem.W.excIn K C [.type "ValueError", .type "Exception", .type "BaseException", .type "object"] "ValueError.__new__" = true
  gC : mg x = some (.ref C)
  kC : PySem.W.keepIn K (.ref C) = true
  bC : PySem.W.subIn K (.ref C) (.type "BaseException") = some true
  tC : PySem.W.typeIn K (.ref C) = some (.type "type")
theorem rs_raise {x m : Str} {j : Nat} {p p2 pos' : Pos} {C : Addr} (h : ExCls X.K X.mg x C) (tk : Takes X W) (hg : Gl X x := by rfl) (hc : X.calm = true := by rfl) (hdb : (x == ("__debug__" : Str)) = false := by decide) :
    RS X W (.Raise (some (.Call (.Name x p) [.Constant (.str m) j p2] [] pos')) none pos) (dRaise C) := by
  refine ⟨_, ps_raise hc tk (pmk_own PySem.F.excBase_ValueError h.ix h.gC h.kC (raises_own h.bC h.tC) hg hdb), fun F0 H0 ρ σ F H D d en c q => ?_⟩
  exact c.ex ρ σ F H en _ _ _ F H (.refl en.rl.fh) (.bare C) q
def dNever : DS := fun _ _ => False
theorem rs_never : RS X W st dNever := ⟨_, ps_never, fun F0 H0 ρ σ F H D d en c q => False.elim q⟩
/-! ### self.f = e, self being made -/
theorem Ent.putOi {K : PySem.W.Frag} {F0 : Fz} {H0 : Hp} {ρ : Env'} {σ : L2.St} {F : Fz} {H : Hp} (e : Ent K F0 H0 ρ σ F H) {i : Nat} {C : Addr × Addr} {fs fs' : List (Str × D)} {p dx : Addr} {ws : List (Str × V)} (hi : ρ[i]? = some (.oi C fs)) (hs : σ[i]? = some (some (.ref p))) (r : RepF K F fs' ws) :
    Ent K F0 H0 (ρ.set i (.oi C fs')) σ F (upd H p (.ins C.1 dx ws)) := by
  obtain ⟨p', dx', vs, h1, h2, h3, h5, h6⟩ := e.rl.oi i C fs hi
  rw [hs] at h1; cases h1
  have h0 := e.new i _ p hi rfl hs
  have il := (List.getElem?_eq_some_iff.mp hi).1
  have at_i : ∀ {s : Sl}, (ρ.set i (.oi C fs'))[i]? = some s → s = .oi C fs' := fun h => by
    rw [List.getElem?_set_self il] at h; exact (Option.some.inj h).symm
  have ne : ∀ {j : Nat}, i ≠ j → (ρ.set i (.oi C fs'))[j]? = ρ[j]? := fun h => List.getElem?_set_ne h
  have np : ∀ {j : Nat} {s : Sl} {q : Addr}, i ≠ j → ρ[j]? = some s → s.own = true → σ[j]? = some (some (.ref q)) → q ≠ p := fun {j s q} hj h o hq z => by
    subst z
    exact hj (e.rl.inj i j _ s _ hi rfl h o hs hq)
  have sm : ∀ {A : Hp}, A p = none → Same A H → Same A (upd H p (.ins C.1 dx ws)) := fun n s b u q => by
    rw [upd_ne (ne_of_none q n)]; exact s b u q
  refine ⟨⟨by rw [List.length_set]; exact e.rl.len, sm h3 e.rl.fh, fun j d h => ?_, fun j fs h => ?_, fun j C' fs h => ?_, fun j kvs h => ?_, fun j k s s' w g1 o1 g2 o2 g3 g4 => ?_⟩, ⟨e.go.ff, sm h0 e.go.hh, sm h3 e.rl.fh, e.go.nn⟩, fun j s q h o hq => ?_⟩
  · by_cases hj : i = j
    · subst hj; cases at_i h
    · rw [ne hj] at h; exact e.rl.sh j d h
  · by_cases hj : i = j
    · subst hj; cases at_i h
    · rw [ne hj] at h
      obtain ⟨q, us, g1, g2, g3⟩ := e.rl.ow j fs h
      exact ⟨q, us, g1, by rw [upd_ne (np hj h rfl g1)]; exact g2, g3⟩
  · by_cases hj : i = j
    · subst hj
      cases at_i h
      exact ⟨p, dx, ws, hs, upd_same, h3, r, h6⟩
    · rw [ne hj] at h
      obtain ⟨q, dx, us, g1, g2, g3⟩ := e.rl.oi j C' fs h
      exact ⟨q, dx, us, g1, by rw [upd_ne (np hj h rfl g1)]; exact g2, g3⟩
  · by_cases hj : i = j
    · subst hj; cases at_i h
    · rw [ne hj] at h
      obtain ⟨q, us, g1, g2, g3⟩ := e.rl.od j kvs h
      exact ⟨q, us, g1, by rw [upd_ne (np hj h rfl g1)]; exact g2, g3⟩
  · have low : ∀ {j : Nat} {s : Sl}, (ρ.set i (.oi C fs'))[j]? = some s → s.own = true → ∃ s', ρ[j]? = some s' ∧ s'.own = true := fun {j s} h o => by
      by_cases hj : i = j
      · subst hj; exact ⟨_, hi, rfl⟩
      · rw [ne hj] at h; exact ⟨s, h, o⟩
    obtain ⟨s1, q1, q2⟩ := low g1 o1
    obtain ⟨s2, q3, q4⟩ := low g2 o2
    exact e.rl.inj j k s1 s2 w q1 q2 q3 q4 g3 g4
  · by_cases hj : i = j
    · subst hj; rw [hs] at hq; cases hq; exact h0
    · rw [ne hj] at h; exact e.new j s q h o hq
def putFD (f : Str) (d : D) : List (Str × D) → List (Str × D)
  | [] => [(f, d)]
  | (g, y) :: r => if g = f then (g, d) :: r else (g, y) :: putFD f d r
theorem RepF.put {K : PySem.W.Frag} {F : Fz} {f : Str} {d : D} {v : V} (r : Rep K F d v) : ∀ {fs : List (Str × D)} {ws : List (Str × V)}, RepF K F fs ws → RepF K F (putFD f d fs) (putF f v ws)
  | _, _, .nil => .cons r .nil
  | (g, y) :: _, (_, z) :: _, .cons q s => by
    unfold putFD putF
    by_cases h : g = f
    · rw [if_pos h, if_pos h]; exact .cons r s
    · rw [if_neg h, if_neg h]; exact .cons q (RepF.put r s)
def oiAt (ρ : Env') (i : Nat) (Q : Addr × Addr → List (Str × D) → Prop) : Prop := match ρ[i]? with
  | some (.oi C fs) => Q C fs
  | _ => False
theorem oiAt_inv {ρ : Env'} {i : Nat} {Q : Addr × Addr → List (Str × D) → Prop} (h : oiAt ρ i Q) : ∃ C fs, ρ[i]? = some (.oi C fs) ∧ Q C fs := by
  unfold oiAt at h
  split at h
  · exact ⟨_, _, by assumption, h⟩
  · exact h.elim
def dPutF (K : PySem.W.Frag) (i : Nat) (f : Str) (t : TD) : DS := fun d ρ => t ρ (fun y => oiAt ρ i fun C fs => FldOk K C.1 f ∧ fs.length < 1000 ∧ d.nx (ρ.set i (.oi C (putFD f y fs)))) (d.ex ρ)
theorem rs_fldS {K : PySem.W.Frag} (i : Nat) {x f : Str} {p pos' : Pos} (h : RE X W e t) (hK : X.K = K := by rfl) (hN : X.N[i]? = some x := by rfl) (hv : Vis X.env.scope x := by first | exact Or.inl rfl | exact Or.inr (Or.inl rfl) | exact Or.inr (Or.inr rfl))
    (hd : (x == ("__debug__" : Str)) = false := by decide) (hcd : (x == ("__classdict__" : Str)) = false := by decide) (hs : swapsWith e (some (.Attribute (.Name x p) f pos')) pos.line X.env = pure false := by rfl) :
    RS X W (.Assign [.Attribute (.Name x p) f pos'] e pos) (dPutF K i f t) := by
  subst hK
  obtain ⟨te, e1, e2⟩ := h.run
  refine ⟨_, ps_fld (pe_var hN hv hd hcd) e1 hs, fun F0 H0 ρ σ F H D d en c q => e2 ρ σ F H _ _ _ en.rl (c.ex ρ σ F H en) (fun y v F1 H1 g r q1 => ?_) q⟩
  obtain ⟨C, fs, ho, q2, q3, q4⟩ := oiAt_inv q1
  have en1 := en.step g
  obtain ⟨p, dx, vs, h1, h2, h3, h5, -⟩ := en1.rl.oi i C fs ho
  exact ⟨_, h1, p, C.1, dx, vs, rfl, h2, q2.1, q2.2, by rw [h5.length]; exact q3, c.nx _ _ F1 _ (en1.putOi ho h1 (h5.put r)) q4⟩
/-! ### C(..) -/
/-- what a class's __init__ promises: the arguments, what is wanted of the fields, of an exception -/
abbrev DI := List D → (List (Str × D) → Prop) → EQ → Prop
def spI (K : PySem.W.Frag) (n : Nat) (C : Addr) (G : DI) : Sp := fun vs H Q E => ∃ (ds : List D) (F : Fz) (H1 : Hp) (x dx : Addr) (us : List V) (Qd : List (Str × D) → Prop) (Ed : EQ), vs = .ref x :: us ∧ H = upd (upd H1 dx (.own x)) x (.ins C dx []) ∧ H1 x = none ∧ H1 dx = none ∧ dx ≠ x ∧
  Same F H1 ∧ Reps K F ds us ∧ ds.length + 1 = n ∧ G ds Qd Ed ∧ (∀ fs ws F' H' dx', Go F H1 F' H' → H' x = some (.ins C dx' ws) → F' x = none → RepF K F' fs ws → Qd fs → Q .non H') ∧
  (∀ y cls d F' H', Go F H1 F' H' → XRep K F' H' y cls d → Ed y → E cls d H')
theorem run_makeS {CX : CXT} {k : Nat} {C f : Addr} {fd : FuncData} {ps : List Str} {sp : Sp} {E : L2.St → XK} {ds : List Value} {dvs : List V} {pins : List (Addr × Obj)} {σ : L2.St} {H : Hp} {s : Shared} {Q : VK} {us : List Value} {vs : List V}
    (M : Mk X.K C f) (F : FnOk X.prog X.w X.K X.mg X.base CX k f fd ps sp) (hr : Room (k + 1) X.A) (hb : Binds X.K fd ps ds) (hd : Vals dvs ds) (hx : PassesAt CX X σ (E σ)) (I : Inv X pins σ H s) (r : Vals vs us)
    (h : ∀ x dx, H x = none → H dx = none → dx ≠ x → sp (.ref x :: (vs ++ dvs)) (upd (upd H dx (.own x)) x (.ins C dx [])) (fun v H2 => v = .non ∧ Q (.ref x) H2) (E σ)) :
    wpAny (model X.prog X.w) X.A (call (.ref C) us) (EP X pins σ Q) X.xe s := by
  have new1 : H s.heap.objs.size = none := I.hok.fresh (Nat.le_refl _)
  have new2 : H (s.heap.objs.size + 1) = none := I.hok.fresh (Nat.le_succ _)
  have hq := h (s.heap.objs.size + 1) s.heap.objs.size new2 new1 (Nat.ne_of_lt (Nat.lt_succ_self _))
  have I2 := Inv.made (C := C) I
  have r2 : Vals (V.ref (s.heap.objs.size + 1) :: (vs ++ dvs)) (Value.ref (s.heap.objs.size + 1) :: (us ++ ds)) := .cons rfl (r.append hd)
  have hl : (Value.ref (s.heap.objs.size + 1) :: us ++ ds).length = ps.length := by
    have q := r2.length
    rw [F.len _ _ _ _ hq] at q
    exact q.symm
  have go := F.run _ X.stack _ _ ⟨Value.ref (s.heap.objs.size + 1) :: us, []⟩ (Value.ref (s.heap.objs.size + 1) :: (us ++ ds)) _ _ (E σ) (hr.make C us []) (I2.env0.make C us []) (hb _ (Value.ref (s.heap.objs.size + 1) :: us) I2.kIn hl) r2 hq
  refine wpAny_call (make_map (f := f) I.kIn M.makes M.init (beq_iff_eq.mp M.fn) (codeAny_mono go fun r s' hq' => ?_))
  match r, hq' with
  | .error e, hq' => exact hx pins _ _ e s' I2 hq'
  | .ok (.ret u), hq' =>
    obtain ⟨v, H', I3, rv, ev, q3⟩ := I2.after hq'
    subst ev
    exact ⟨rv, V.ref (s.heap.objs.size + 1), H', I3, rfl, q3⟩
  | .ok .next, hq' => exact False.elim hq'
  | .ok .brk, hq' => exact False.elim hq'
  | .ok .cont, hq' => exact False.elim hq'
def tMakeS (C : Addr) (sp : Sp) (dvs : List V) (E : L2.St → XK) (u : TA) : TE := fun σ H Q => u σ H fun vs H1 => ∀ x dx, H1 x = none → H1 dx = none → dx ≠ x →
  sp (.ref x :: (vs ++ dvs)) (upd (upd H1 dx (.own x)) x (.ins C dx [])) (fun v H2 => v = .non ∧ Q (.ref x) H2) (E σ)
theorem pe_makeS {CX : CXT} {k : Nat} {C f : Addr} {fd : FuncData} {ps : List Str} {sp : Sp} {E : L2.St → XK} {ds : List Value} {dvs : List V} {x : Str} {p : Pos} {u : TA} (M : Mk X.K C f) (F : FnOk X.prog X.w X.K X.mg X.base CX k f fd ps sp) (hr : Room (k + 1) X.A) (hg : Gl X x) (hm : X.mg x = some (.ref C)) (hb : Binds X.K fd ps ds) (hd : Vals dvs ds) (hx : ∀ σ, PassesAt CX X σ (E σ))
    (ha : PA X (e :: es) u) (hdb : (x == ("__debug__" : Str)) = false) (he : starEach (e :: es) X.env = (false, eval e X.env) :: starEach es X.env) (hpl : (backTo pos (starEach es X.env)).any (·.1) = false) :
    PE X (.Call (.Name x p) (e :: es) [] pos) (tMakeS C sp dvs E u) := by
  refine ⟨fun pins s σ H Q I h => wpAny_Call_Name_kw (ld_glob I hg hm ?_ hdb)⟩
  refine PySem.W.callWith_K (h₀ := X.base) I.ok.mod.kin M.kp (thn (ha.run pos pins s σ H _ I h) fun us s1 hh => ?_) he hpl
  obtain ⟨vs, H1, I1, r, q⟩ := hh
  exact ⟨I1.kIn, run_makeS M F hr hb hd (hx σ) I1 r q⟩
/-- a class of the text: its __init__ and its promise -/
structure FI (P : Program) (w : World) (K : PySem.W.Frag) (mg : Str → Option Value) (base : Heap) (k : Nat) (C : Addr) (n : Nat) (dd : List D) (G : DI) : Prop where
  ok : ∃ (f : Addr) (fd : FuncData) (ps : List Str) (dvs : List V) (ds : List Value), FnOk P w K mg base (L2.CX P w) k f fd ps (spI K n C G) ∧ Binds K fd ps ds ∧ Vals dvs ds ∧ (∀ F, Reps K F dd dvs) ∧ Mk K C f
def dMake (n : Nat) (C : Addr) (dd : List D) (G : DI) (ts : TDs) : TD := fun ρ Q E => ts ρ (fun ds => (ds ++ dd).length + 1 = n ∧ G (ds ++ dd) (fun fs => Q (.ins C fs)) E) E
theorem re_make {k n : Nat} {C : Addr} {dd : List D} {G : DI} {x : Str} {p : Pos} (h : FI X.prog X.w X.K X.mg X.base k C n dd G) (hr : Room (k + 1) X.A) (hm : X.mg x = some (.ref C)) (tk : Takes X W) (ha : RA X W (e :: es) ts)
    (hg : Gl X x := by rfl) (hdb : (x == ("__debug__" : Str)) = false := by decide) (he : starEach (e :: es) X.env = (false, eval e X.env) :: starEach es X.env := by rfl) (hpl : (backTo pos (starEach es X.env)).any (·.1) = false := by rfl) :
    RE X W (.Call (.Name x p) (e :: es) [] pos) (dMake n C dd G ts) := by
  obtain ⟨f, fd, ps, dvs, dsv, F, bn, vl, hd, M⟩ := h.ok
  obtain ⟨ta, h1, h2⟩ := ha.run
  refine ⟨_, pe_makeS M F hr hg hm bn vl (fun σ => passAt tk σ) h1 hdb he hpl, fun ρ σ F H Qd E Q rl xp kk q => h2 ρ σ F H _ E _ rl xp (fun ds vs F1 H1 g1 r1 q1 => ?_) q⟩
  intro x dx nx ndx ne
  refine ⟨ds ++ dd, F1, H1, x, dx, vs ++ dvs, _, E, rfl, rfl, nx, ndx, ne, g1.fh, r1.append (hd F1), q1.1, q1.2, fun fs ws F' H' dx' g hx fx r qd => ⟨rfl, ?_⟩, fun y cls d F' H' g r ex => xp y cls d F' H' (g1.trans g) r ex⟩
  have g2 := g1.trans g
  have gz : Go F H (F'.upd x (.ins C dx' ws)) H' := by
    refine ⟨g2.ff.trans (same_updF fx), g2.hh, fun b u q => ?_, fun b z1 z2 => ?_⟩
    · rw [Fz.upd_h] at q
      by_cases z : b = x
      · subst z; rw [upd_same] at q; cases q; exact hx
      · rw [upd_ne z] at q; exact g2.fh _ _ q
    · rw [Fz.upd_h, upd_ne (fun z => by rw [z] at z2; exact z2 (g1.hh.free nx))]; exact g2.nn b z1 z2
  exact kk _ _ _ H' gz (.ins upd_same (r.mono (same_updF fx))) qd
end
/-! ### a def keeps its promise -/
def startD (N : List Str) (ds : List D) : Env' := ds.map .sh ++ List.replicate (N.length - ds.length) .no
theorem start_rl {K : PySem.W.Frag} {N : List Str} {ds : List D} {vs : List V} {F : Fz} {H : Hp} (e : Same F H) (r : Reps K F ds vs) : Rl K (startD N ds) (L2.start N vs) F H := by
  have hl := r.length
  have len : (startD N ds).length = (L2.start N vs).length := by
    unfold startD L2.start
    rw [List.length_append, List.length_append, List.length_map, List.length_map, List.length_replicate, List.length_replicate, hl]
  have inv : ∀ {i : Nat} {s : Sl}, (startD N ds)[i]? = some s → s ≠ .no → ∃ d, s = .sh d ∧ ds[i]? = some d ∧ i < ds.length := fun {i s} h ne => by
    unfold startD at h
    by_cases hi : i < ds.length
    · rw [List.getElem?_append_left (by rw [List.length_map]; exact hi), List.getElem?_map] at h
      cases q : ds[i]? with
      | none => rw [q] at h; cases h
      | some d => rw [q] at h; cases h; exact ⟨d, rfl, rfl, hi⟩
    · rw [List.getElem?_append_right (by rw [List.length_map]; omega), List.getElem?_replicate] at h
      split at h
      · cases h; exact absurd rfl ne
      · cases h
  refine ⟨len, e, fun i d h => ?_, fun i es h => ?_, fun i C fs h => ?_, fun i kvs h => ?_, fun i j s t v h1 o1 h2 o2 h3 h4 => ?_⟩
  · obtain ⟨d', q, h', hi⟩ := inv h (fun z => nomatch z)
    cases q
    obtain ⟨v, h1, h2⟩ := r.get h'
    refine ⟨v, ?_, h2⟩
    unfold L2.start
    rw [List.getElem?_append_left (by rw [List.length_map]; omega), List.getElem?_map, h1]
    rfl
  · obtain ⟨d', q, _⟩ := inv h (fun z => nomatch z); cases q
  · obtain ⟨d', q, _⟩ := inv h (fun z => nomatch z); cases q
  · obtain ⟨d', q, _⟩ := inv h (fun z => nomatch z); cases q
  · obtain ⟨d', q, _⟩ := inv h1 (fun z => by subst z; cases o1)
    subst q; cases o1
theorem start_own {N : List Str} {ds : List D} {i : Nat} {s : Sl} (h : (startD N ds)[i]? = some s) : ¬ s.own = true := by
  unfold startD at h
  by_cases hi : i < ds.length
  · rw [List.getElem?_append_left (by rw [List.length_map]; exact hi), List.getElem?_map] at h
    cases q : ds[i]? with
    | none => rw [q] at h; cases h
    | some d => rw [q] at h; cases h; exact Bool.false_ne_true
  · rw [List.getElem?_append_right (by rw [List.length_map]; omega), List.getElem?_replicate] at h
    split at h
    · cases h; exact Bool.false_ne_true
    · cases h
abbrev WF (E : XK) : WX := fun cls dx _ H => E cls dx H
end Dl

/-! The D-layer, part 10: a law's end. -/
namespace Dl
open PySem PySem.Spec
open PyProof.Rows L2
/-- what a law promises: of every script of so many ints, True -/
def gLaw (n : Nat) : DF := fun ds Q _ => ∃ ns : List Int, ds = [.frl (ns.map .int)] ∧ ns.length ≤ n ∧ (∀ z ∈ ns, Builtin.Int.intBits z ≤ 1048576) ∧ Q (.bl true)
theorem reps_ints {K : PySem.W.Frag} {F : Fz} : ∀ ns : List Int, Reps K F (ns.map D.int) (ns.map V.int)
  | [] => .nil
  | n :: ns => .cons (.int n) (reps_ints ns)
def topJ (H : Hp) : Addr → Tg := fun p => match H p with
  | none => .a
  | some _ => .k
theorem topJ_l (H : Hp) (p : Addr) (h : topJ H p = .j) : ∃ vs, H p = some (.lst vs) := by
  unfold topJ at h
  cases q : H p <;> rw [q] at h <;> cases h
theorem topJ_n (H : Hp) (p : Addr) (h : H p = none) : topJ H p = .a := by
  unfold topJ
  rw [h]
theorem topJ_k (H : Hp) : Same H (Fz.kh ⟨H, topJ H, topJ_l H, topJ_n H⟩) := fun p o h => by
  rw [Fz.kh_of _ (by show topJ H p = .k; unfold topJ; rw [h])]
  exact h
theorem law_end {l : PySem.W.OpenLaw} {n k : Nat} {q : Program} {loose : List Str} {XP : (Str → Option Value) → Heap → Prop} {YP : World → Heap → Prop} {d : DefRec} {K : Params → PySem.W.Frag} {x : Str}
    (hn : l.most = some n) (hn2 : n ≤ sizeLine) (hdf : d.params.defaults = []) (hr : Room k callerA) (hY : ∀ (w : World) (h : Heap), YP w h → (K w.params).In h)
    (F : ∀ (w : World) (mg : Str → Option Value) (fa : Addr) (h : Heap), (K w.params).In h → h.Ns mainGlobals mg → mg d.name = some (.ref fa) →
      ∃ fd : FuncData, (∀ (s : Shared) (u : Value), BindsTo s fd ⟨[u], []⟩ [(x, u)]) ∧
        ∀ base : Heap, (K w.params).In base → base.Ns mainGlobals mg → FnOk l.prog w (K w.params) mg base (L2.CX l.prog w) k fa fd [x] (spD (K w.params) 1 (gLaw n))) :
    PySem.W.WalkO q loose XP YP l.row.toRowW d [] (fun f vs => PySem.call f vs) := by
  refine L2.walk_ofB (K := K) (CX := fun w => L2.CX l.prog w) (sp := fun w => spD (K w.params) 1 (gLaw n)) hn hn2 hdf hr hY F (fun w H a ns h1 hb h2 h3 => ?_) fun w H s e s' z => ?_
  · refine ⟨[.frl (ns.map .int)], ⟨H, topJ H, topJ_l H, topJ_n H⟩, fun d => d = .bl true, fun _ => False, Same.refl _, .cons (.frl (same_seqL (topJ_k H) h3) (by rw [List.length_map]; omega) (reps_ints ns)) .nil, rfl, ⟨ns, rfl, h1, hb, rfl⟩, fun d v F' H' g r e => ?_, fun _ _ _ _ _ _ _ z => z.elim⟩
    subst e
    cases r
    rfl
  · obtain ⟨_, _, _, _, _, _, _, _, _, _, _, _, z⟩ := z
    exact z.elim
/-- a def as it stands behind the top, whatever its defaults are -/
theorem def_okA {P : Program} {w : World} {K : PySem.W.Frag} {mg : Str → Option Value} {base : Heap} {name qual : Str} {st : Stmt} {f : Addr} {N ps : List Str} {k n : Nat} {G : DF} {tb : DS} {oc dV kV doc pm cdv ct : Value} {od an : Option Addr} {osl : Array (Option Value)}
    (lk : K.lookup f = some ⟨oc, od, .func (PySem.W.fnOf name qual (defArgs st) (defBody st) (defScope st) dV kV doc pm an cdv ct), osl⟩) (hcd : PySem.W.codeIn K cdv qual = true) (S : FnScope N ps (defScope st)) (hn : ps.length = n)
    (body : ∀ (cdv : Value) (A : Around) (outer : List Env) (s : Shared) (H : Hp) (E : XK), Room k (A.deeper (envOfC qual (defScope st) s.heap.objs.size f cdv)) → RSs (cxOf (L2.CX P w) P w K mg base N qual (defScope st) f cdv A outer s H E) (WF E) (defBody st) tb)
    (read : ∀ ds Q E, ds.length = n → G ds Q E → tb ⟨fun _ => Q .non, Q, fun _ => False, fun _ => False, fun _ => E, fun _ => False, fun _ _ => False⟩ (startD N ds)) :
    FnOk P w K mg base (L2.CX P w) (k + 1) f (PySem.W.fnOf name qual (defArgs st) (defBody st) (defScope st) dV kV doc pm an cdv ct) ps (spD K n G) := by
  refine fn_of lk hcd S (fun vs H Q E h => ?_) fun A outer s H vs Q E hr h => ?_
  · obtain ⟨ds, F, Qd, Ed, _, r, hl, _⟩ := h
    rw [r.length, hl, hn]
  · obtain ⟨ts, h1, h2⟩ := (body cdv A outer s H E hr).run
    refine ⟨ts, h1, ?_⟩
    obtain ⟨ds, F1, Qd, Ed, sf, r, hl, g, k1, k2⟩ := h
    have rl := start_rl (N := N) sf r
    refine h2 F1 H (startD N ds) _ F1 H _ ⟨fun _ => Qd .non, Qd, fun _ => False, fun _ => False, fun _ => Ed, fun _ => False, fun _ _ => False⟩ ⟨rl, .refl sf, fun i s p h o hs => ?_⟩ ⟨fun ρ σ F' H' e q => k1 _ _ F' H' e.go .non q, fun x v F' H' g r q => k1 x v F' H' g r q, fun _ _ _ _ _ q => q.elim, fun _ _ _ _ _ q => q.elim, fun ρ σ F' H' e x cls dx F2 H2 g r q => k2 x cls dx F2 H2 (e.go.trans g) r q, fun _ _ _ _ _ _ q => q.elim, fun _ _ _ _ _ _ _ _ _ _ _ _ q => q.elim⟩ (read ds Qd Ed hl g)
    exact absurd o (start_own h)
/-! ### short names of readings (what gen.py prints) -/
def dLstN (ts : TDs) : TDs := fun ρ Q E => ts ρ (fun ds => few ds ∧ Q ds) E
def k_abs : KC := k1c fun d Q => asI (fun i => Q (.int (if i < 0 then -i else i))) d
def kStrI : KC := k1c fun d Q => asI (fun i => i.natAbs.log2 < 1920 ∧ Q (.str (toString i))) d
end Dl

/-! The D-layer, part 11: more operators. -/
namespace Dl
open PySem PySem.Spec
open PyProof.Rows L2
section
variable {X : Cx} {W : WX} {e a b c : Expr} {t ta tb tc : TD} {pos : Pos}
def dNeg (t : TD) : TD := fun ρ Q E => t ρ (asI fun i => Q (.int (-i))) E
theorem re_neg (ha : RP X W a ta) : RE X W (.UnaryOp .USub a pos) (dNeg ta) := by
  obtain ⟨te, h1, h2⟩ := ha.run
  refine ⟨_, pe_un un_neg h1, fun ρ σ F H Qd E Q rl xp kk q => h2 ρ σ F H _ E _ rl xp (fun d v F1 H1 g pk q1 => ?_) q⟩
  obtain ⟨i, rfl, q2⟩ := asI_inv q1
  cases pk.int
  exact ⟨i, rfl, kk _ _ F1 H1 g (.int _) q2⟩
theorem Pk.non {K : PySem.W.Frag} {F : Fz} {H : Hp} {v : V} (p : Pk K F H .non v) : v = .non := by
  rcases p with r | ⟨p, vs, ds, q, _⟩
  · cases r; rfl
  · cases q
/-- a < b < c -/
def dChain (k k' : KD) (ta tb tc : TD) : TD := fun ρ Q E => ta ρ (fun x => tb ρ (fun y => k x y (asB fun c => ifP c (tc ρ (fun z => k' y z Q) E) (Q (.bl false)))) E) E
theorem rt_chain' {op op' : CmpOp} {k k' : KD} (ho : OpD X (compareOp op) k) (ho' : OpD X (compareOp op') k') (ha : RP X W a ta) (hb : RP X W b tb) (hc : RP X W c tc) (hm : lastMarks [op, op'] [b, c] = false := by with_unfolding_all rfl) :
    RT X W (.Compare a [op, op'] [b, c] pos) (dTest (dChain k k' ta tb tc)) := by
  obtain ⟨r, o1, o2⟩ := ho
  obtain ⟨r', o1', o2'⟩ := ho'
  obtain ⟨te1, a1, a2⟩ := ha.run
  obtain ⟨te2, b1, b2⟩ := hb.run
  obtain ⟨te3, c1, c2⟩ := hc.run
  refine ⟨_, pt_chain o1 o1' a1 b1 c1 hm, fun ρ σ F H Qd E Q rl xp kk q => a2 ρ σ F H _ E _ rl xp (fun x vx F1 H1 g1 px q1 => b2 ρ σ F1 H1 _ E _ (rl.go g1) (xp.go g1) (fun y vy F2 H2 g2 py q2 => ?_) q1) q⟩
  refine o2 x y vx vy F2 H2 _ _ g2.fh (px.go g2) py (fun d v F3 H3 g3 rd q3 => ?_) q2
  obtain ⟨cc, rfl, q4⟩ := asB_inv q3
  cases rd
  have g := (g1.trans g2).trans g3
  refine ⟨cc, rfl, ?_⟩
  cases cc with
  | false =>
    rw [ifP_f] at q4
    exact iteF ⟨false, rfl, kk _ F3 H3 g q4⟩
  | true =>
    rw [ifP_t] at q4
    refine iteT (c2 ρ σ F3 H3 _ E _ (rl.go g) (xp.go g) (fun z vz F4 H4 g4 pz q5 => ?_) q4)
    refine o2' y z vy vz F4 H4 _ _ g4.fh ((py.go g3).go g4) pz (fun d v F5 H5 g5 r5 q6 => ?_) q5
    obtain ⟨c5, rfl, q7⟩ := asB_inv q6
    cases r5
    exact ⟨c5, rfl, kk _ F5 H5 ((g.trans g4).trans g5) q7⟩
end
end Dl

/-! The D-layer, part 12: readings made short. -/
namespace Dl
open PySem PySem.Spec
open PyProof.Rows L2
theorem compR_map {g : DG} {tt : TDb} {te : TD} {ρ : Env'} {Q : List D → Prop} (f : D → D) : ∀ (ds acc : List D),
    (∀ d ∈ ds, ∀ (K1 : D → Prop) (K0 : Prop), K1 (f d) → g d ρ fun ρ2 => tt ρ2 (fun b => ifP b (te ρ2 K1 (fun _ => False)) (K0)) fun _ => False) → Q (acc ++ ds.map f) → compR g tt te ρ Q ds acc
  | [], acc, _, q => by rw [List.map_nil, List.append_nil] at q; exact q
  | d :: ds, acc, h, q => by
    refine h d List.mem_cons_self _ _ (compR_map f ds _ (fun e he => h e (List.mem_cons_of_mem _ he)) ?_)
    rw [List.append_assoc]
    exact q
theorem irg_map : ∀ (n : Nat) (lo : Int), irg lo n = (List.range n).map fun k : Nat => D.int (lo + (k : Int))
  | 0, lo => rfl
  | n + 1, lo => by
    rw [List.range_succ_eq_map, List.map_cons, List.map_map]
    show D.int lo :: irg (lo + 1) n = _
    rw [irg_map n (lo + 1)]
    congr 1
    · rw [show lo + ((0 : Nat) : Int) = lo by omega]
    · apply List.map_congr_left
      intro k _
      show D.int (lo + 1 + k) = D.int (lo + ((k + 1 : Nat) : Int))
      rw [show lo + 1 + (k : Int) = lo + ((k + 1 : Nat) : Int) by omega]
theorem irg0 (n : Nat) : irg 0 n = (List.range n).map fun k : Nat => D.int (k : Int) := by
  rw [irg_map]
  apply List.map_congr_left
  intro k _
  show D.int (0 + (k : Int)) = D.int (k : Int)
  rw [Int.zero_add]
theorem few_of {ds : List D} (h : ds.length ≤ 16777216) : few ds := h
theorem atI_nn {α : Type} {xs : List α} {k : Nat} : atI xs (k : Int) = xs[k]? := by
  unfold atI ixN
  rw [if_pos (by omega)]
  by_cases h : ((k : Int) < (xs.length : Int))
  · rw [if_pos h]; rfl
  · rw [if_neg h]
    show none = _
    rw [List.getElem?_eq_none (by omega)]
theorem mulOk_r {i j : Int} (h1 : -(2 ^ 64) < j) (h2 : j < 2 ^ 64) : mulOk i j := .of_right (intBits_le_64 h1 h2)
theorem mulOk_l {i j : Int} (h1 : -(2 ^ 64) < i) (h2 : i < 2 ^ 64) : mulOk i j := .of_left (intBits_le_64 h1 h2)
theorem mulOk_le {i j : Int} {m n : Nat} (h1 : Builtin.Int.intBits i ≤ m) (h2 : Builtin.Int.intBits j ≤ n) (h : m + n ≤ 134217728) : mulOk i j := IntMulOk.of_le h1 h2 h
theorem divOk_small {j : Int} (h0 : j ≠ 0) (h : j.natAbs < 2 ^ 8000) : divOk j := ⟨h0, Nat.lt_of_lt_of_le (PySem.Flt.log2_lt_of (by decide) h) (by decide)⟩
end Dl
namespace Dl
open PySem PySem.Spec
open PyProof.Rows L2
/-! ### lists of ints by a function -/
def tabD (m : Nat) (F : Nat → Int) : List D := (List.range m).map fun j => D.int (F j)
theorem tab_len (m : Nat) (F : Nat → Int) : (tabD m F).length = m := by unfold tabD; rw [List.length_map, List.length_range]
theorem tab_get {m : Nat} {F : Nat → Int} {j : Nat} (h : j < m) : (tabD m F)[j]? = some (.int (F j)) := by
  unfold tabD
  rw [List.getElem?_map, List.getElem?_range h]
  rfl
theorem tab_congr {m : Nat} {F G : Nat → Int} (h : ∀ j, j < m → F j = G j) : tabD m F = tabD m G := by
  unfold tabD
  exact List.map_congr_left fun j hj => by rw [h j (List.mem_range.mp hj)]
theorem tab_list (ns : List Int) : ns.map D.int = tabD ns.length fun j => ns.getD j 0 := by
  refine List.ext_getElem? fun i => ?_
  by_cases hi : i < ns.length
  · rw [tab_get hi, List.getElem?_map, List.getElem?_eq_getElem hi, List.getD_eq_getElem?_getD, List.getElem?_eq_getElem hi]
    rfl
  · rw [List.getElem?_eq_none (by rw [List.length_map]; omega), List.getElem?_eq_none (by rw [tab_len]; omega)]
theorem tab_snoc (m : Nat) (F : Nat → Int) (x : Int) : tabD m F ++ [.int x] = tabD (m + 1) (fun j => if j = m then x else F j) := by
  unfold tabD
  rw [List.range_succ, List.map_append]
  congr 1
  · exact List.map_congr_left fun j hj => by
      show D.int (F j) = D.int (if j = m then x else F j)
      rw [if_neg (Nat.ne_of_lt (List.mem_range.mp hj))]
  · simp
/-! ### plain data -/
mutual
def D.okk : Nat → D → Bool
  | _, .non => true
  | _, .bl _ => true
  | _, .int _ => true
  | _, .str x => PyData.strOk x
  | 0, _ => false
  | n + 1, .tup ds => D.okks n ds
  | n + 1, .lst ds => D.okks n ds
  | n + 1, .frl ds => D.okks n ds
  | n + 1, .mu ds => D.okks n ds
  | _, _ => false
def D.okks : Nat → List D → Bool
  | _, [] => true
  | n, d :: ds => D.okk n d && D.okks n ds
end
theorem okks_all {n : Nat} : ∀ {ds : List D}, (∀ d ∈ ds, d.okk n = true) → D.okks n ds = true
  | [], _ => by unfold D.okks; rfl
  | d :: ds, h => by
    unfold D.okks
    rw [h d List.mem_cons_self, okks_all fun e he => h e (List.mem_cons_of_mem _ he)]
    rfl
mutual
theorem okk_plain : ∀ (n : Nat) (d : D), d.okk n = true → d.flat = true ∧ d.py.canLay0 = true ∧ d.py.depth ≤ n
  | n, .non, _ => by unfold D.flat D.py PyData.canLay0 PyData.depth; exact ⟨rfl, rfl, Nat.zero_le _⟩
  | n, .bl _, _ => by unfold D.flat D.py PyData.canLay0 PyData.depth; exact ⟨rfl, rfl, Nat.zero_le _⟩
  | n, .int _, _ => by unfold D.flat D.py PyData.canLay0 PyData.depth; exact ⟨rfl, rfl, Nat.zero_le _⟩
  | n, .str x, h => by
    unfold D.flat D.py PyData.canLay0 PyData.depth
    have h' : PyData.strOk x = true := by cases n <;> (unfold D.okk at h; exact h)
    exact ⟨rfl, h', Nat.zero_le _⟩
  | 0, .tup ds, h => by unfold D.okk at h; cases h
  | 0, .lst ds, h => by unfold D.okk at h; cases h
  | 0, .frl ds, h => by unfold D.okk at h; cases h
  | 0, .mu ds, h => by unfold D.okk at h; cases h
  | n + 1, .tup ds, h => by
    unfold D.okk at h
    obtain ⟨h1, h2, h3⟩ := okks_plain n ds h
    unfold D.flat D.py PyData.canLay0 PyData.depth
    exact ⟨h1, h2, Nat.succ_le_succ h3⟩
  | n + 1, .lst ds, h => by
    unfold D.okk at h
    obtain ⟨h1, h2, h3⟩ := okks_plain n ds h
    unfold D.flat D.py PyData.canLay0 PyData.depth
    exact ⟨h1, h2, Nat.succ_le_succ h3⟩
  | n + 1, .frl ds, h => by
    unfold D.okk at h
    obtain ⟨h1, h2, h3⟩ := okks_plain n ds h
    unfold D.flat D.py PyData.canLay0 PyData.depth
    exact ⟨h1, h2, Nat.succ_le_succ h3⟩
  | n + 1, .mu ds, h => by
    unfold D.okk at h
    obtain ⟨h1, h2, h3⟩ := okks_plain n ds h
    unfold D.flat D.py PyData.canLay0 PyData.depth
    exact ⟨h1, h2, Nat.succ_le_succ h3⟩
  | n, .ty _, h => by cases n <;> (unfold D.okk at h; cases h)
  | n, .cls _, h => by cases n <;> (unfold D.okk at h; cases h)
  | n, .ins _ _, h => by cases n <;> (unfold D.okk at h; cases h)
  | n, .dic _, h => by cases n <;> (unfold D.okk at h; cases h)
  | n, .ob _, h => by cases n <;> (unfold D.okk at h; cases h)
theorem okks_plain : ∀ (n : Nat) (ds : List D), D.okks n ds = true → D.flats ds = true ∧ PyData.canLayAll0 (D.pys ds) = true ∧ PyData.depthAll (D.pys ds) ≤ n
  | n, [], _ => by unfold D.flats D.pys PyData.canLayAll0 PyData.depthAll; exact ⟨rfl, rfl, Nat.zero_le _⟩
  | n, d :: ds, h => by
    unfold D.okks at h
    rw [Bool.and_eq_true] at h
    obtain ⟨h1, h2, h3⟩ := okk_plain n d h.1
    obtain ⟨k1, k2, k3⟩ := okks_plain n ds h.2
    unfold D.flats D.pys PyData.canLayAll0 PyData.depthAll
    rw [h1, h2, k1, k2]
    exact ⟨rfl, rfl, Nat.max_le.mpr ⟨h3, k3⟩⟩
end
theorem plain_of {d : D} (h : d.okk 64 = true) : plain d := by
  obtain ⟨h1, h2, h3⟩ := okk_plain 64 d h
  exact ⟨h1, by unfold SeqAt.shaped; rw [h2, decide_eq_true h3]; rfl⟩
theorem okk_tab (n m : Nat) (F : Nat → Int) : D.okks n (tabD m F) = true := okks_all fun d hd => by
  obtain ⟨j, _, rfl⟩ := List.mem_map.mp hd
  cases n <;> rfl
theorem okk_ints (n : Nat) (ns : List Int) : D.okks n (ns.map D.int) = true := okks_all fun d hd => by
  obtain ⟨j, _, rfl⟩ := List.mem_map.mp hd
  cases n <;> rfl
mutual
theorem eqv_self : ∀ (n : Nat) (d : D), d.okk n = true → PyData.eqv d.py d.py = true
  | n, .non, _ => by unfold D.py PyData.eqv; rfl
  | n, .bl _, _ => by unfold D.py PyData.eqv; exact beq_self_eq_true _
  | n, .int _, _ => by unfold D.py PyData.eqv; exact beq_self_eq_true _
  | n, .str x, h => by unfold D.py PyData.eqv; exact beq_self_eq_true _
  | 0, .tup ds, h => by unfold D.okk at h; cases h
  | 0, .lst ds, h => by unfold D.okk at h; cases h
  | 0, .frl ds, h => by unfold D.okk at h; cases h
  | 0, .mu ds, h => by unfold D.okk at h; cases h
  | n + 1, .tup ds, h => by unfold D.okk at h; unfold D.py PyData.eqv; exact eqvs_self n ds h
  | n + 1, .lst ds, h => by unfold D.okk at h; unfold D.py PyData.eqv; exact eqvs_self n ds h
  | n + 1, .frl ds, h => by unfold D.okk at h; unfold D.py PyData.eqv; exact eqvs_self n ds h
  | n + 1, .mu ds, h => by unfold D.okk at h; unfold D.py PyData.eqv; exact eqvs_self n ds h
  | n, .ty _, h => by cases n <;> (unfold D.okk at h; cases h)
  | n, .cls _, h => by cases n <;> (unfold D.okk at h; cases h)
  | n, .ins _ _, h => by cases n <;> (unfold D.okk at h; cases h)
  | n, .dic _, h => by cases n <;> (unfold D.okk at h; cases h)
  | n, .ob _, h => by cases n <;> (unfold D.okk at h; cases h)
theorem eqvs_self : ∀ (n : Nat) (ds : List D), D.okks n ds = true → PyData.eqvAll (D.pys ds) (D.pys ds) = true
  | n, [], _ => by unfold D.pys PyData.eqvAll; rfl
  | n, d :: ds, h => by
    unfold D.okks at h
    rw [Bool.and_eq_true] at h
    unfold D.pys PyData.eqvAll
    rw [eqv_self n d h.1, eqvs_self n ds h.2]
    rfl
end
/-! ### isinstance of ints and the like -/
end Dl
namespace Dl
/-! ### what dsimp may use of lists -/
section
variable {α β : Type}
theorem q_map_cons (f : α → β) (a : α) (l : List α) : (a :: l).map f = f a :: l.map f := rfl
theorem q_map_nil (f : α → β) : ([] : List α).map f = [] := rfl
theorem q_app_cons (a : α) (l m : List α) : (a :: l) ++ m = a :: (l ++ m) := rfl
theorem q_app_nil (m : List α) : [] ++ m = m := rfl
theorem q_len_cons (a : α) (l : List α) : (a :: l).length = l.length + 1 := rfl
theorem q_len_nil : ([] : List α).length = 0 := rfl
theorem q_rep_0 (a : α) : List.replicate 0 a = [] := rfl
theorem q_rep_s (n : Nat) (a : α) : List.replicate (n + 1) a = a :: List.replicate n a := rfl
theorem q_get_0 (a : α) (l : List α) : (a :: l)[0]? = some a := rfl
theorem q_get_s (a : α) (l : List α) (n : Nat) : (a :: l)[n + 1]? = l[n]? := rfl
theorem q_set_0 (a b : α) (l : List α) : (a :: l).set 0 b = b :: l := rfl
theorem q_set_s (a b : α) (l : List α) (n : Nat) : (a :: l).set (n + 1) b = a :: l.set n b := rfl
end
end Dl
namespace Dl
open PySem PySem.Spec
open PyProof.Rows L2
theorem cut_map {α β : Type} (f : α → β) (xs : List α) (lo hi : Option Int) : cut (xs.map f) lo hi = (cut xs lo hi).map f := by
  unfold cut
  rw [List.length_map, List.map_take, List.map_drop]
section
variable {g : DG} {tt : TDb} {te : TD} {ρ : Env'} {Q : List D → Prop}
theorem compL_map (f : D → D) (ds acc : List D)
    (h : ∀ d ∈ ds, ∀ (K1 : D → Prop) (K0 : Prop), K1 (f d) → g d ρ fun ρ2 => tt ρ2 (fun b => ifP b (te ρ2 K1 (fun _ => False)) (K0)) fun _ => False) (q : Q (acc ++ ds.map f)) : compL g tt te ρ Q ds acc := ⟨compR_map f ds acc h q⟩
end
/-- a comprehension over a range -/
theorem compL_rng {g : DG} {tt : TDb} {te : TD} {ρ : Env'} {Q : List D → Prop} (n : Nat) (f : Nat → D)
    (h : ∀ k : Nat, k < n → ∀ (K1 : D → Prop) (K0 : Prop), K1 (f k) → g (.int (k : Int)) ρ fun ρ2 => tt ρ2 (fun b => ifP b (te ρ2 K1 (fun _ => False)) (K0)) fun _ => False)
    (q : Q ((List.range n).map f)) : compL g tt te ρ Q (irg 0 n) [] := by
  rw [irg0]
  refine compL_map (fun d => match d with | .int k => f k.toNat | d => d) _ _ (fun d hd K1 K0 hK => ?_) ?_
  · obtain ⟨k, hk, rfl⟩ := List.mem_map.mp hd
    exact h k (List.mem_range.mp hk) K1 K0 hK
  · rw [List.nil_append, List.map_map]
    exact q
end Dl

/-! The D-layer, part 13: loops by one turn. -/
namespace Dl
open PySem PySem.Spec
open PyProof.Rows L2
section
variable {g : DG} {tb : DS} {d : DE} {x : D} {xs : List D} {ρ : Env'}
theorem lp_nil (h : d.nx ρ) : loopD g tb d [] ρ := ⟨h⟩
theorem lp_cons (h : g x ρ fun ρ2 => tb { d with nx := loopD g tb d xs, ct := loopD g tb d xs, bk := d.nx } ρ2) : loopD g tb d (x :: xs) ρ := by
  rw [loopD_eq] at h
  exact ⟨h⟩
theorem lp_r0 {i : Int} (h : d.nx ρ) : loopD g tb d (irg i 0) ρ := ⟨h⟩
theorem lp_rs {i : Int} {n : Nat} (h : g (.int i) ρ fun ρ2 => tb { d with nx := loopD g tb d (irg (i + 1) n), ct := loopD g tb d (irg (i + 1) n), bk := d.nx } ρ2) : loopD g tb d (irg i (n + 1)) ρ := by
  rw [loopD_eq] at h
  exact ⟨h⟩
end
end Dl

section
open Dl
local macro_rules | `(tactic| walk_at "rd") => `(tactic| ((conv => whnf); (try dsimp only [startD, wipeD, q_map_cons, q_map_nil, q_app_cons, q_app_nil, q_len_cons, q_len_nil, q_rep_0, q_rep_s, q_get_0, q_get_s, q_set_0, q_set_s, ifP_t, ifP_f, Nat.reduceAdd, Nat.reduceSub, Int.reduceToNat, Int.reducePow, Int.reduceAdd, Int.reduceMul])))
local macro_rules | `(tactic| walk_at "go") => `(tactic| ((try walk_at "rd"); (repeat (refine And.intro (by walk_at "sd") ?_; try walk_at "rd"))))
/-! The D-layer, part 14: numbers, fractions. -/
namespace Dl
open PySem PySem.Spec
open PyProof.Rows L2
local macro_rules | `(tactic| walk_at "sd") => `(tactic| first | with_reducible assumption | omega | with_reducible rfl | decide | exact few_of (by decide) | exact divOk_small (by decide) (by decide +kernel) | exact mulOk_r (by omega) (by omega) | exact mulOk_l (by omega) (by omega) | exact few_of (by simp only [List.length_append, List.length_map, List.length_cons, List.length_nil, tab_len, List.length_replicate]; omega))
def bnd (k : Nat) (z : Int) : Prop := z.natAbs < 2 ^ k
def shr (t b : Int) : Int := if b < 0 then -(Int.gcd t b : Int) else (Int.gcd t b : Int)
def isWh : D → Option Bool
  | .int _ => some true
  | .bl _ => some false
  | .non => some false
  | .str _ => some false
  | .tup _ => some false
  | .lst _ => some false
  | .dic _ => some false
  | _ => none
abbrev dE (Q E : EQ) : DE := ⟨fun _ => Q .non, Q, fun _ => False, fun _ => False, fun _ => E, fun _ => False, fun _ _ => False⟩
theorem bits_of {k : Nat} {z : Int} (h : bnd k z) : Builtin.Int.intBits z ≤ k := intBits_le_iff.mpr h
theorem bnd_mono {j k : Nat} {z : Int} (h : bnd j z) (hk : j ≤ k) : bnd k z := Nat.lt_of_lt_of_le h (Nat.pow_le_pow_right (by decide) hk)
theorem bnd_mul {j k : Nat} {x y : Int} (h1 : bnd j x) (h2 : bnd k y) : bnd (j + k) (x * y) := intBits_le_iff.mp (Nat.le_trans (intBits_mul_le (bits_of h1) (bits_of h2)) (Nat.le_refl _))
theorem mul_of {j k : Nat} {x y : Int} (h1 : bnd j x) (h2 : bnd k y) (h : j + k ≤ 134217728) : mulOk x y := mulOk_le (bits_of h1) (bits_of h2) h
theorem abs_nat (a : Int) : (if a < 0 then -a else a) = (a.natAbs : Int) := by split <;> omega
theorem two (x : Int) : x.fmod 2 = 0 ∨ x.fmod 2 = 1 := by
  have h1 := Int.fmod_nonneg_of_pos x (show (0 : Int) < 2 by decide)
  have h2 := Int.fmod_lt_of_pos x (show (0 : Int) < 2 by decide)
  omega
theorem pick (l : List D) (n x : Int) (hn : n = (l.length : Int)) (h0 : 0 < n) : ∃ y, y ∈ l ∧ atI l (x.fmod n) = some y := by
  have h1 := Int.fmod_nonneg_of_pos x h0
  have h2 := Int.fmod_lt_of_pos x h0
  obtain ⟨k, hk⟩ := Int.eq_ofNat_of_zero_le h1
  rw [hk] at h2 ⊢
  have hl : k < l.length := by omega
  exact ⟨l[k], List.getElem_mem hl, by rw [atI_nn, List.getElem?_eq_getElem hl]⟩
theorem pick2 (p q x : Int) : ∃ y, atI [D.int p, D.int q] (x.fmod 2) = some (.int y) ∧ (y = p ∨ y = q) := by
  obtain ⟨y, hm, h⟩ := pick [D.int p, D.int q] 2 x rfl (by decide)
  rcases List.mem_cons.mp hm with rfl | hm
  · exact ⟨p, h, .inl rfl⟩
  · rw [List.mem_singleton.mp hm] at h
    exact ⟨q, h, .inr rfl⟩
theorem bnd_of {k : Nat} {z : Int} (h1 : -(2 ^ k) < z) (h2 : z < 2 ^ k) : bnd k z := by
  unfold bnd
  have e : ((2 ^ k : Nat) : Int) = 2 ^ k := by simp
  omega
end Dl

/-! The D-layer, part 15: the defs of fractions, read once. -/
namespace Dl
open PySem PySem.Spec
open PyProof.Rows L2
local macro_rules | `(tactic| walk_at "sd") => `(tactic| first | with_reducible assumption | omega | with_reducible rfl | decide | exact few_of (by decide) | exact divOk_small (by decide) (by decide +kernel) | exact mulOk_r (by omega) (by omega) | exact mulOk_l (by omega) (by omega) | exact few_of (by simp only [List.length_append, List.length_map, List.length_cons, List.length_nil, tab_len, List.length_replicate]; omega))
abbrev g_is_whole : DF := fun ds Q _ => ∃ d b, ds = [d] ∧ isWh d = some b ∧ Q (.bl b)
abbrev N_is_whole : List Str := ["thing"]
def tb_is_whole (K : PySem.W.Frag) : DS :=
  (dRet (dAndV (dCB (kIsi K) (dCons (dVarP 0) (dCons (dC (.ty "int")) dNil))) (dNotV (dCB (kIsi K) (dCons (dVarP 0) (dCons (dC (.ty "bool")) dNil))))))
theorem rd_is_whole {K : PySem.W.Frag} (ds : List D) (Q E : EQ) (_ : ds.length = 1) (h : g_is_whole ds Q E) : tb_is_whole K (dE Q E) (startD N_is_whole ds) := by
  obtain ⟨d, b, rfl, hd, q⟩ := h
  unfold tb_is_whole dE
  cases d <;> first
    | (cases hd; walk_at "rd"; exact q)
    | cases hd
abbrev g__law_cell_at : DF := fun ds Q _ => ∃ (ns : List Int) (k : Nat), ds = [.frl (ns.map .int), .int k] ∧ Q (.int (ns.getD k 0))
abbrev N__law_cell_at : List Str := ["_law_script", "_law_k"]
def tb__law_cell_at : DS :=
  (dSq (dIf (dTest (dOp kLt (dVarP 1) (dCB kLen (dCons (dVarP 0) dNil)))) (dRet (dOp kIx (dVarP 0) (dVarP 1))) dNext) (dRet (dC (.int 0))))
theorem rd__law_cell_at (ds : List D) (Q E : EQ) (_ : ds.length = 2) (h : g__law_cell_at ds Q E) : tb__law_cell_at (dE Q E) (startD N__law_cell_at ds) := by
  obtain ⟨ns, k, rfl, q⟩ := h
  unfold tb__law_cell_at dE
  walk_at "rd"
  rw [List.length_map]
  rw [List.getD_eq_getElem?_getD] at q
  by_cases hk : k < ns.length
  · rw [decide_eq_true (by omega)]
    walk_at "rd"
    rw [atI_nn, List.getElem?_map, List.getElem?_eq_getElem hk]
    rw [List.getElem?_eq_getElem hk] at q
    exact q
  · rw [decide_eq_false (by omega)]
    walk_at "rd"
    rw [List.getElem?_eq_none (by omega)] at q
    exact q
end Dl

/-! The D-layer, part 16: fractions are equal where their cross products are. -/
namespace Dl
open PySem PySem.Spec
open PyProof.Rows L2
theorem bnd_add {k : Nat} {x y : Int} (h1 : bnd k x) (h2 : bnd k y) : bnd (k + 1) (x + y) := by
  unfold bnd at *
  rw [Nat.pow_succ]
  omega
/-- sum and bottom of rows along a point -/
def wsF : List Int → List (Int × Int) → Int → Int → Int × Int
  | r :: rs, p :: ps, T, B => wsF rs ps (T * p.2 + r * p.1 * B) (B * p.2)
  | _, _, T, B => (T, B)
/-- points whose numbers are not great -/
def okP (k : Nat) (ps : List (Int × Int)) : Prop := ∀ p ∈ ps, 0 < p.2 ∧ bnd k p.1 ∧ bnd k p.2
def okR (k : Nat) (rs : List Int) : Prop := ∀ r ∈ rs, bnd k r
end Dl

/-! The D-layer, part 17: rows along points; the laws' tools. -/
namespace Dl
open PySem PySem.Spec
open PyProof.Rows L2
local macro_rules | `(tactic| walk_at "sd") => `(tactic| first | with_reducible assumption | omega | with_reducible rfl | decide | exact few_of (by decide) | exact divOk_small (by decide) (by decide +kernel) | exact mulOk_r (by omega) (by omega) | exact mulOk_l (by omega) (by omega) | exact few_of (by simp only [List.length_append, List.length_map, List.length_cons, List.length_nil, tab_len, List.length_replicate]; omega))
theorem bnd_one {k : Nat} (h : k ≠ 0) : bnd k 1 := by unfold bnd; exact Nat.one_lt_two_pow h
end Dl

/-! The D-layer, part 18: rows that hold; the laws' tools. -/
namespace Dl
open PySem PySem.Spec
open PyProof.Rows L2
local macro_rules | `(tactic| walk_at "sd") => `(tactic| first | with_reducible assumption | omega | with_reducible rfl | decide | exact few_of (by decide) | exact divOk_small (by decide) (by decide +kernel) | exact mulOk_r (by omega) (by omega) | exact mulOk_l (by omega) (by omega) | exact few_of (by simp only [List.length_append, List.length_map, List.length_cons, List.length_nil, tab_len, List.length_replicate]; omega))
/-- whether a row holds at a point -/
def hld (rs : List Int) (b : Int) (ps : List (Int × Int)) : Bool := decide ((wsF rs ps 0 1).1 ≤ b * (wsF rs ps 0 1).2)
end Dl

/-! The D-layer, part 19: rooms; the laws' tools. -/
namespace Dl
open PySem PySem.Spec
open PyProof.Rows L2
local macro_rules | `(tactic| walk_at "sd") => `(tactic| first | with_reducible assumption | omega | with_reducible rfl | decide | exact few_of (by decide) | exact divOk_small (by decide) (by decide +kernel) | exact mulOk_r (by omega) (by omega) | exact mulOk_l (by omega) (by omega) | exact few_of (by simp only [List.length_append, List.length_map, List.length_cons, List.length_nil, tab_len, List.length_replicate]; omega))
theorem compL_gen {α : Type} {g : DG} {tt : TDb} {te : TD} {ρ : Env'} {Q : List D → Prop} (f : α → D) (R : α → Prop) (ds : List D)
    (h : ∀ d ∈ ds, ∀ (K1 : D → Prop) (K0 : Prop), (∀ a, R a → K1 (f a)) → g d ρ fun ρ2 => tt ρ2 (fun b => ifP b (te ρ2 K1 (fun _ => False)) K0) fun _ => False)
    (q : ∀ as : List α, as.length = ds.length → (∀ a ∈ as, R a) → Q (as.map f)) : compL g tt te ρ Q ds [] := by
  have go : ∀ (ds acc : List D), (∀ d ∈ ds, ∀ (K1 : D → Prop) (K0 : Prop), (∀ a, R a → K1 (f a)) → g d ρ fun ρ2 => tt ρ2 (fun b => ifP b (te ρ2 K1 (fun _ => False)) K0) fun _ => False) →
      (∀ as : List α, as.length = ds.length → (∀ a ∈ as, R a) → Q (acc ++ as.map f)) → compR g tt te ρ Q ds acc := by
    intro ds
    induction ds with
    | nil =>
      intro acc _ q
      have := q [] rfl (fun y hy => by cases hy)
      rw [List.map_nil, List.append_nil] at this
      exact this
    | cons d ds ih =>
      intro acc h q
      refine h d List.mem_cons_self _ _ fun y hy => ih _ (fun e he => h e (List.mem_cons_of_mem _ he)) fun as hl hp => ?_
      rw [List.append_assoc]
      exact q (y :: as) (by rw [List.length_cons, List.length_cons, hl]) fun z hz => by
        rcases List.mem_cons.mp hz with rfl | hz
        · exact hy
        · exact hp z hz
  exact ⟨go ds [] h fun as hl hp => q as hl hp⟩
theorem sIx_m1 (n : Nat) : HT.sIx n n (some (-1)) = n - 1 := by
  show (if ((-1 : Int)) < 0 then ((-1 : Int) + (n : Int)).toNat else min (-1 : Int).toNat n) = n - 1
  rw [if_pos (by decide)]
  omega
theorem cut_take {α : Type} (xs : List α) (k : Nat) : cut xs none (some (k : Int)) = xs.take k := by
  unfold cut
  rw [HT.sIx_nat, HT.sIx_none, Nat.sub_zero, List.drop_zero]
  by_cases h : k ≤ xs.length
  · rw [Nat.min_eq_left h]
  · rw [Nat.min_eq_right (by omega), List.take_of_length_le (Nat.le_refl _), List.take_of_length_le (by omega)]
abbrev g__law_stream : DF := fun ds Q _ => ∃ (c : Int) (m : Nat), ds = [.int c, .int m] ∧ m ≤ 1000 ∧ ∀ X : Nat → Int, (∀ j, 0 ≤ X j ∧ X j < 10 ^ 45) → Q (.lst (tabD m X))
abbrev N__law_stream : List Str := ["_law_cell", "_law_many", "_law_found", "_law_rest", "_law_k", "_law_number_here"]
def tb__law_stream : DS :=
  (dSq (dOwn 2 (dLstN dNil)) (dSq (dIf (dTest (dOp kGe (dVarP 0) (dOp kPow (dC (.int 10)) (dC (.int 30))))) (dSq (dSet 3 (dOp kSub (dVarP 0) (dOp kPow (dC (.int 10)) (dC (.int 30))))) (dSq (dFor (dRng1 (dVarP 1)) (gNm 4) (dSq (dApp 2 (dOp kMod (dVarP 3) (dOp kPow (dC (.int 10)) (dC (.int 45))))) (dSet 3 (dOp kDiv (dVarP 3) (dOp kPow (dC (.int 10)) (dC (.int 45))))))) (dFrz 2 (dRet (dVar 2))))) dNext) (dSq (dSet 5 (dOp kAdd (dOp kMod (dVarP 0) (dOp kAdd (dOp kPow (dC (.int 10)) (dC (.int 18))) (dC (.int 9)))) (dC (.int 48271)))) (dSq (dFor (dRng1 (dOp kAdd (dVarP 1) (dC (.int 2)))) (gNm 4) (dSq (dSet 5 (dOp kMod (dOp kAdd (dOp kAdd (dOp kMul (dVarP 5) (dVarP 5)) (dOp kMul (dC (.int 48271)) (dVarP 5))) (dVarP 4)) (dOp kAdd (dOp kPow (dC (.int 10)) (dC (.int 18))) (dC (.int 9))))) (dApp 2 (dVar 5)))) (dRet (dSl (dVarP 2) (dPart (dC (.int 2))) dNoPart))))))
theorem stream_a {d : DE} {a b : Sl} {M : Nat} : ∀ (t k i : Nat) (F : Nat → Int) (rest : Int) (s4 : Sl), M ≤ 1000 → k + t = M → (∀ j, 0 ≤ F j ∧ F j < 10 ^ 45) →
    (∀ (F : Nat → Int) (s3 s4 : Sl), (∀ j, 0 ≤ F j ∧ F j < 10 ^ 45) → d.nx [a, b, .ow (tabD M F), s3, s4, .no]) →
    loopD (gNm 4) (dSq (dApp 2 (dOp kMod (dVarP 3) (dOp kPow (dC (.int 10)) (dC (.int 45))))) (dSet 3 (dOp kDiv (dVarP 3) (dOp kPow (dC (.int 10)) (dC (.int 45)))))) d (irg i t) [a, b, .ow (tabD k F), .sh (.int rest), s4, .no]
  | 0, k, i, F, rest, s4, hM, hk, hF, h => by
    have e : k = M := by omega
    subst e
    exact lp_r0 (h F _ _ hF)
  | t + 1, k, i, F, rest, s4, hM, hk, hF, h => by
    refine lp_rs ?_
    walk_at "rd"
    walk_at "go"
    rw [tab_snoc]
    walk_at "go"
    refine stream_a t (k + 1) (i + 1) _ _ _ hM (by omega) (fun j => ?_) h
    by_cases hj : j = k
    · rw [if_pos hj]
      exact ⟨Int.fmod_nonneg_of_pos _ (by omega), Int.fmod_lt_of_pos _ (by omega)⟩
    · rw [if_neg hj]; exact hF j

theorem stream_b {d : DE} {a b s3 : Sl} {M : Nat} : ∀ (t k i : Nat) (F : Nat → Int) (x : Int) (s4 : Sl), M ≤ 2000 → i + t ≤ 2000 → k + t = M → (0 ≤ x ∧ x < 2 * 10 ^ 18) → (∀ j, 0 ≤ F j ∧ F j < 10 ^ 45) →
    (∀ (F : Nat → Int) (s4 s5 : Sl), (∀ j, 0 ≤ F j ∧ F j < 10 ^ 45) → d.nx [a, b, .ow (tabD M F), s3, s4, s5]) →
    loopD (gNm 4) (dSq (dSet 5 (dOp kMod (dOp kAdd (dOp kAdd (dOp kMul (dVarP 5) (dVarP 5)) (dOp kMul (dC (.int 48271)) (dVarP 5))) (dVarP 4)) (dOp kAdd (dOp kPow (dC (.int 10)) (dC (.int 18))) (dC (.int 9))))) (dApp 2 (dVar 5))) d (irg i t) [a, b, .ow (tabD k F), s3, s4, .sh (.int x)]
  | 0, k, i, F, x, s4, hM, hi, hk, hx, hF, h => by
    have e : k = M := by omega
    subst e
    exact lp_r0 (h F _ _ hF)
  | t + 1, k, i, F, x, s4, hM, hi, hk, hx, hF, h => by
    refine lp_rs ?_
    walk_at "rd"
    have hb : bnd 64 x := by
      have : (2 : Int) * 10 ^ 18 ≤ 2 ^ 64 := by decide
      unfold bnd
      have h2 : ((x.natAbs : Nat) : Int) < ((2 ^ 64 : Nat) : Int) := by
        rw [Int.natAbs_of_nonneg hx.1]
        have : ((2 ^ 64 : Nat) : Int) = 2 ^ 64 := by decide
        omega
      omega
    have xx := mulOk_le (bits_of hb) (bits_of hb) (by omega)
    walk_at "go"
    rw [tab_snoc]
    walk_at "go"
    have hp : (0 : Int) < 1000000000000000009 := by omega
    have m1 := Int.fmod_nonneg_of_pos (x * x + 48271 * x + i) hp
    have m2 := Int.fmod_lt_of_pos (x * x + 48271 * x + i) hp
    refine stream_b t (k + 1) (i + 1) _ _ _ hM (by omega) (by omega) ⟨m1, by omega⟩ (fun j => ?_) h
    by_cases hj : j = k
    · rw [if_pos hj]; exact ⟨m1, by omega⟩
    · rw [if_neg hj]; exact hF j
theorem cut_2 (m : Nat) (F : Nat → Int) : cut (tabD (m + 2) F) (some 2) none = tabD m fun j => F (j + 2) := by
  unfold cut
  rw [tab_len, HT.sIx_none, show (2 : Int) = ((2 : Nat) : Int) from rfl, HT.sIx_nat, show min 2 (m + 2) = 2 by omega, show m + 2 - 2 = m by omega]
  refine List.ext_getElem? fun i => ?_
  by_cases hi : i < m
  · rw [tab_get hi, List.getElem?_take_of_lt hi, List.getElem?_drop, tab_get (by omega), Nat.add_comm]
  · rw [List.getElem?_eq_none (by rw [List.length_take, List.length_drop, tab_len]; omega), List.getElem?_eq_none (by rw [tab_len]; omega)]
theorem rd__law_stream (ds : List D) (Q E : EQ) (_ : ds.length = 2) (h : g__law_stream ds Q E) : tb__law_stream (dE Q E) (startD N__law_stream ds) := by
  obtain ⟨c, m, rfl, hm, q⟩ := h
  unfold tb__law_stream dE
  walk_at "go"
  have t0 : ∀ G : Nat → Int, ([] : List D) = tabD 0 G := fun _ => rfl
  by_cases hc : (1000000000000000000000000000000 : Int) ≤ c
  · rw [decide_eq_true hc]
    walk_at "go"
    rw [t0 (fun _ => 0), Int.toNat_natCast]
    refine stream_a (M := m) m 0 0 _ _ _ (by omega) (by omega) (fun _ => ⟨by omega, by omega⟩) fun F s3 s4 hF => ?_
    walk_at "rd"
    exact q F hF
  · rw [decide_eq_false hc]
    walk_at "go"
    rw [t0 (fun _ => 0), show ((m : Int) + 2).toNat = m + 2 by omega]
    have hp : (0 : Int) < 1000000000000000009 := by omega
    have m1 := Int.fmod_nonneg_of_pos c hp
    have m2 := Int.fmod_lt_of_pos c hp
    refine stream_b (M := m + 2) (m + 2) 0 0 _ _ _ (by omega) (by omega) (by omega) ⟨by omega, by omega⟩ (fun _ => ⟨by omega, by omega⟩) fun F s4 s5 hF => ?_
    walk_at "rd"
    rw [cut_2]
    exact q _ fun j => hF (j + 2)
end Dl

/-! The D-layer, part 20: the laws' own sum along a point. -/
namespace Dl
open PySem PySem.Spec
open PyProof.Rows L2
local macro_rules | `(tactic| walk_at "sd") => `(tactic| first | with_reducible assumption | omega | with_reducible rfl | decide | exact few_of (by decide) | exact divOk_small (by decide) (by decide +kernel) | exact mulOk_r (by omega) (by omega) | exact mulOk_l (by omega) (by omega) | exact few_of (by simp only [List.length_append, List.length_map, List.length_cons, List.length_nil, tab_len, List.length_replicate]; omega))
end Dl

/-! The D-layer, part 21: defs that hand back lists which are the caller's own. -/
namespace Dl
open PySem PySem.Spec
open PyProof.Rows L2
section
variable {X : Cx} {W : WX} {st : Stmt} {rest : List Stmt} {e a b c tg : Expr} {es : List Expr} {t ta tb tc : TD} {ts : TDs} {u v : DS} {pos : Pos}
end
/-! ### their promises -/
structure FO (P : Program) (w : World) (K : PySem.W.Frag) (mg : Str → Option Value) (base : Heap) (k : Nat) (f : Addr) (n : Nat) (sp : Sp) : Prop where
  ok : ∃ (fd : FuncData) (ps : List Str), FnOk P w K mg base (L2.CX P w) k f fd ps sp ∧ Binds K fd ps []
  kp : PySem.W.keepIn K (.ref f) = true
/-! ### their calls -/
section
variable {X : Cx} {W : WX} {e : Expr} {es : List Expr} {ts : TDs} {pos : Pos}
end
end Dl

/-! The D-layer, part 22: lists of one's own, lent for a call. -/
namespace Dl
open PySem PySem.Spec
open PyProof.Rows L2
/-- what a def may know while it is lent the lists at ls -/
def lendH (F : Hp) (H : Hp) (ls : List Addr) : Hp := fun b => match F b with
  | some o => some o
  | none => if b ∈ ls then H b else none
def lendF (F : Fz) (H : Hp) (ls : List Addr) : Fz := ⟨lendH F.h H ls, F.j, fun b h => by
  obtain ⟨vs, z⟩ := F.wl b h
  exact ⟨vs, by unfold lendH; rw [z]⟩, fun b h => F.wf b (by
  unfold lendH at h
  cases hb : F.h b with
  | none => rfl
  | some o => rw [hb] at h; cases h)⟩
theorem lendF_h (F : Fz) (H : Hp) (ls : List Addr) (b : Addr) : (lendF F H ls).h b = lendH F.h H ls b := rfl
/-- and what is known behind it -/
def backH (F F' : Hp) (ls : List Addr) : Hp := fun b => match F b with
  | some o => some o
  | none => if b ∈ ls then none else F' b
def tgOf : Option HO → Tg → Tg
  | none, _ => .a
  | some (.lst _), t => t
  | some _, .j => .a
  | some _, t => t
theorem tgOf_j {o : Option HO} {t : Tg} (h : tgOf o t = .j) : ∃ vs, o = some (.lst vs) := by
  cases o with
  | none => cases h
  | some o => cases o <;> first | exact ⟨_, rfl⟩ | (cases t <;> cases h)
def backF (F F' : Fz) (ls : List Addr) : Fz := ⟨backH F.h F'.h ls, fun b => tgOf (backH F.h F'.h ls b) (F'.j b), fun b h => tgOf_j h, fun b h => by rw [h]; rfl⟩
theorem backF_h (F F' : Fz) (ls : List Addr) (b : Addr) : (backF F F' ls).h b = backH F.h F'.h ls b := rfl
mutual
def D.tupy : D → Bool
  | .non => true
  | .bl _ => true
  | .int _ => true
  | .str _ => true
  | .tup ds => D.tupys ds
  | _ => false
def D.tupys : List D → Bool
  | [] => true
  | d :: ds => d.tupy && D.tupys ds
end
theorem back_seq {F : Fz} {H : Hp} {F' : Fz} {ls : List Addr} {a : Addr} {xs : List V} (hl : ∀ b ∈ ls, ∃ xs, H b = some (.lst xs)) (ff : SameF (lendF F H ls) F') (h : F' a = some (.tup xs)) : backF F F' ls a = some (.tup xs) := by
  · skip
    have key : backF F F' ls a = F' a ∨ ∃ ys, F' a = some (.lst ys) := by
      rw [backF_h]; unfold backH
      cases hb : F a with
      | some o => exact .inl (by dsimp only; exact ((ff.s a o (by rw [lendF_h]; unfold lendH; rw [hb])).symm))
      | none =>
        dsimp only
        by_cases hv : a ∈ ls
        · obtain ⟨ys, hy⟩ := hl a hv
          exact .inr ⟨ys, ff.s a _ (by rw [lendF_h]; unfold lendH; rw [hb]; dsimp only; rw [if_pos hv]; exact hy)⟩
        · rw [if_neg hv]; exact .inl rfl
    rcases key with k | ⟨ys, k⟩
    · rw [k]; exact h
    · rw [k] at h; cases h
mutual
theorem back_rep {K : PySem.W.Frag} {F : Fz} {H : Hp} {F' : Fz} {ls : List Addr} (hl : ∀ b ∈ ls, ∃ xs, H b = some (.lst xs)) (ff : SameF (lendF F H ls) F') : ∀ {d : D} {v : V}, d.tupy = true → Rep K F' d v → Rep K (backF F F' ls) d v
  | _, _, _, .non => .non
  | _, _, _, .bl b => .bl b
  | _, _, _, .int i => .int i
  | _, _, _, .str x => .str x
  | _, _, h, .tup s l r => .tup (back_seq hl ff s) l (back_reps hl ff (by unfold D.tupy at h; exact h) r)
  | _, _, h, .ty _ => by unfold D.tupy at h; cases h
  | _, _, h, .cls _ => by unfold D.tupy at h; cases h
  | _, _, h, .ob _ => by unfold D.tupy at h; cases h
  | _, _, h, .lst .. => by unfold D.tupy at h; cases h
  | _, _, h, .mu .. => by unfold D.tupy at h; cases h
  | _, _, h, .frl .. => by unfold D.tupy at h; cases h
  | _, _, h, .ins .. => by unfold D.tupy at h; cases h
  | _, _, h, .dic .. => by unfold D.tupy at h; cases h
theorem back_reps {K : PySem.W.Frag} {F : Fz} {H : Hp} {F' : Fz} {ls : List Addr} (hl : ∀ b ∈ ls, ∃ xs, H b = some (.lst xs)) (ff : SameF (lendF F H ls) F') : ∀ {ds : List D} {vs : List V}, D.tupys ds = true → Reps K F' ds vs → Reps K (backF F F' ls) ds vs
  | _, _, _, .nil => .nil
  | _, _, h, .cons r rs => by
    unfold D.tupys at h
    rw [Bool.and_eq_true] at h
    exact .cons (back_rep hl ff h.1 r) (back_reps hl ff h.2 rs)
end
section
variable {X : Cx} {W : WX} {e : Expr} {es : List Expr} {ts : TDs} {pos : Pos}
end
end Dl

/-! The D-layer, part 23: a + b as a list of one's own; tuples of ints compared; rows added. -/
namespace Dl
open PySem PySem.Spec
open PyProof.Rows L2
section
variable {X : Cx} {W : WX}
def kAddN : D → D → (List D → Prop) → Prop := fun x y Q => match x, y with
  | .lst a, .lst b => few (a ++ b) ∧ Q (a ++ b)
  | .lst a, .mu b => few (a ++ b) ∧ Q (a ++ b)
  | .mu a, .lst b => few (a ++ b) ∧ Q (a ++ b)
  | .mu a, .mu b => few (a ++ b) ∧ Q (a ++ b)
  | _, _ => False
def dAddN (ta tb : TD) : TDs := fun ρ Q E => ta ρ (fun x => tb ρ (fun y => kAddN x y Q) E) E
theorem rn_addL {a b : Expr} {ta tb : TD} {pos : Pos} (ha : RP X W a ta) (hb : RP X W b tb) : RN X W (.BinOp a .Add b pos) (dAddN ta tb) := by
  obtain ⟨te1, a1, a2⟩ := ha.run
  obtain ⟨te2, b1, b2⟩ := hb.run
  refine ⟨_, pe_op op_cat a1 b1, fun ρ σ F H Qd E Q rl xp kk q => a2 ρ σ F H _ E _ rl xp (fun x vx F1 H1 g1 px q1 => b2 ρ σ F1 H1 _ E _ (rl.go g1) (xp.go g1) (fun y vy F2 H2 g2 py q2 => ?_) q1) q⟩
  obtain ⟨a, b, hx, hy, q2⟩ : ∃ a b, (x = .lst a ∨ x = .mu a) ∧ (y = .lst b ∨ y = .mu b) ∧ few (a ++ b) ∧ Qd (a ++ b) := by
    cases x <;> cases y <;> first | exact ⟨_, _, .inl rfl, .inl rfl, q2.1, q2.2⟩ | exact ⟨_, _, .inl rfl, .inr rfl, q2.1, q2.2⟩ | exact ⟨_, _, .inr rfl, .inl rfl, q2.1, q2.2⟩ | exact ⟨_, _, .inr rfl, .inr rfl, q2.1, q2.2⟩ | exact False.elim q2
  obtain ⟨p, vs, rfl, h1, l1, r1⟩ := (px.go g2).anyL hx g2.fh
  obtain ⟨p', vs', rfl, h1', l1', r1'⟩ := py.anyL hy g2.fh
  have rr := r1.append r1'
  have zz := few_line rr q2.1
  refine ⟨p, p', vs, vs', rfl, rfl, h1, h1', by rw [← List.length_append]; exact zz, fun l nl => ?_⟩
  exact kk _ l _ F2 _ ((g1.trans g2).trans (go_new g2.fh nl)) (g1.hh.free (g2.hh.free nl)) upd_same (g2.fh.free nl) zz rr q2.2
end
end Dl

/-! The D-layer, part 24: x[i] = [..]; x[i][j] = e, the inner list new. -/
namespace Dl
open PySem PySem.Spec
open PyProof.Rows L2
section
variable {X : Cx} {W : WX} {rest : List Stmt} {e a1 a2 a3 c : Expr} {t1 t2 t3 te : TD} {tn : TDs} {u : DS}
end
end Dl

/-! The D-layer, part 25: loops and comprehensions by place; rows brought to steps. -/
namespace Dl
open PySem PySem.Spec
open PyProof.Rows L2
section
variable {g : DG} {tb : DS} {d : DE}
end
section
variable {g : DG} {tt : TDb} {te : TD} {ρ : Env'} {Q : List D → Prop}
end
theorem rng_get {α : Type} {m : Nat} {f : Nat → α} {k : Nat} (h : k < m) : ((List.range m).map f)[k]? = some (f k) := by
  rw [List.getElem?_map, List.getElem?_range h]; rfl
theorem rng_inv {α : Type} {m : Nat} {f : Nat → α} {k : Nat} {x : α} (h : ((List.range m).map f)[k]? = some x) : k < m ∧ x = f k := by
  have hl := (List.getElem?_eq_some_iff.mp h).1
  rw [List.length_map, List.length_range] at hl
  rw [rng_get hl] at h
  exact ⟨hl, (Option.some.inj h).symm⟩
theorem rng_len {α : Type} {m : Nat} {f : Nat → α} : ((List.range m).map f).length = m := by rw [List.length_map, List.length_range]
theorem tab_inv {m : Nat} {F : Nat → Int} {k : Nat} {x : D} (h : (tabD m F)[k]? = some x) : k < m ∧ x = .int (F k) := rng_inv h
/-! ### rows: what divides all, lowest form, sums -/
def gcdL (r : Nat → Int) : Nat → Int
  | 0 => 0
  | m + 1 => (Int.gcd (r m) (gcdL r m) : Int)
def lowR (m : Nat) (r : Nat → Int) : Nat → Int := fun j => if gcdL r m = 0 then r j else (r j).fdiv (gcdL r m)
def dot (r y : Nat → Int) : Nat → Int
  | 0 => 0
  | n + 1 => dot r y n + r n * y n
theorem gcdL_nn (r : Nat → Int) : ∀ m, 0 ≤ gcdL r m
  | 0 => Int.le_refl _
  | m + 1 => Int.natCast_nonneg _
theorem gcdL_dvd (r : Nat → Int) : ∀ m j, j < m → gcdL r m ∣ r j
  | m + 1, j, h => by
    by_cases e : j = m
    · subst e; exact Int.gcd_dvd_left ..
    · exact Int.dvd_trans (Int.gcd_dvd_right ..) (gcdL_dvd r m j (by omega))
/-- the lowest form, times what divides all, is the row -/
theorem lowR_eq (m : Nat) (r : Nat → Int) : ∃ g : Int, 0 < g ∧ ∀ j, j < m → r j = g * lowR m r j := by
  unfold lowR
  by_cases h : gcdL r m = 0
  · exact ⟨1, by decide, fun j hj => by rw [if_pos h, Int.one_mul]⟩
  · refine ⟨gcdL r m, by have := gcdL_nn r m; omega, fun j hj => ?_⟩
    rw [if_neg h]
    obtain ⟨c, hc⟩ := gcdL_dvd r m j hj
    rw [hc, Int.mul_fdiv_cancel_left _ h]
theorem dot_congr {r s y : Nat → Int} : ∀ {n : Nat}, (∀ j, j < n → r j = s j) → dot r y n = dot s y n
  | 0, _ => rfl
  | n + 1, h => by unfold dot; rw [dot_congr (fun j hj => h j (by omega)), h n (by omega)]
theorem dot_mul (a : Int) (r y : Nat → Int) : ∀ n, dot (fun j => a * r j) y n = a * dot r y n
  | 0 => by unfold dot; rw [Int.mul_zero]
  | n + 1 => by unfold dot; rw [dot_mul a r y n]; grind
theorem dot_sub (a b : Int) (r s y : Nat → Int) : ∀ n, dot (fun j => r j * a - s j * b) y n = a * dot r y n - b * dot s y n
  | 0 => by unfold dot; omega
  | n + 1 => by unfold dot; rw [dot_sub a b r s y n]; grind
theorem dot_low (m : Nat) (r y : Nat → Int) : dot (lowR m r) y m = 0 ↔ dot r y m = 0 := by
  obtain ⟨g, g0, h⟩ := lowR_eq m r
  rw [dot_congr (n := m) (s := fun j => g * lowR m r j) (r := r) h, dot_mul]
  constructor
  · intro e; rw [e, Int.mul_zero]
  · intro e; rcases Int.mul_eq_zero.mp e with z | z
    · omega
    · exact z
theorem low_zero {m : Nat} {r : Nat → Int} {j : Nat} (hj : j < m) : lowR m r j = 0 ↔ r j = 0 := by
  obtain ⟨g, g0, h⟩ := lowR_eq m r
  rw [h j hj]
  constructor
  · intro e; rw [e, Int.mul_zero]
  · intro e; rcases Int.mul_eq_zero.mp e with z | z
    · omega
    · exact z
/-! ### elimination -/
abbrev Mat := Nat → Nat → Int
def crR (w : Nat) (r s : Nat → Int) (p : Nat) : Nat → Int := lowR w (fun j => r j * s p - s j * r p)
def fwN (R : Mat) (p : Nat) : Nat → Nat → Option Nat
  | 0, _ => none
  | t + 1, a => if R a p = 0 then fwN R p t (a + 1) else some a
def swR (R : Mat) (a b : Nat) : Mat := fun k => if k = b then R a else if k = a then R b else R k
def elR (w m : Nat) (R : Mat) (a p : Nat) : Mat := fun k => if k < m ∧ k ≠ a ∧ R k p ≠ 0 then crR w (R k) (R a) p else R k
def stepG (w m : Nat) (s : Mat × List Nat) (p : Nat) : Mat × List Nat :=
  match fwN s.1 p (m - s.2.length) s.2.length with
  | none => s
  | some k => (elR w m (swR s.1 s.2.length k) s.2.length p, s.2 ++ [p])
def redG (w m : Nat) (R : Mat) : Nat → Mat × List Nat
  | 0 => (fun k => lowR w (R k), [])
  | c + 1 => stepG w m (redG w m R c) c
theorem fwN_some {R : Mat} {p : Nat} : ∀ {t a k : Nat}, fwN R p t a = some k → a ≤ k ∧ k < a + t ∧ R k p ≠ 0
  | 0, a, k, h => by cases h
  | t + 1, a, k, h => by
    unfold fwN at h
    by_cases e : R a p = 0
    · rw [if_pos e] at h
      obtain ⟨h1, h2, h3⟩ := fwN_some h
      exact ⟨by omega, by omega, h3⟩
    · rw [if_neg e] at h
      cases h
      exact ⟨Nat.le_refl _, by omega, e⟩
theorem fwN_none {R : Mat} {p : Nat} : ∀ {t a : Nat}, fwN R p t a = none → ∀ k, a ≤ k → k < a + t → R k p = 0
  | 0, a, h, k, h1, h2 => by omega
  | t + 1, a, h, k, h1, h2 => by
    unfold fwN at h
    by_cases e : R a p = 0
    · rw [if_pos e] at h
      by_cases ek : k = a
      · subst ek; exact e
      · exact fwN_none h k (by omega) (by omega)
    · rw [if_neg e] at h
      cases h
/-- where a vector is put to nought by all rows -/
def Kn (w m : Nat) (R : Mat) (y : Nat → Int) : Prop := ∀ k, k < m → dot (R k) y w = 0
theorem kn_sw {w m : Nat} {R : Mat} {a b : Nat} (ha : a < m) (hb : b < m) (y : Nat → Int) : Kn w m (swR R a b) y ↔ Kn w m R y := by
  have e : ∀ k, swR R a b k = R (if k = b then a else if k = a then b else k) := fun k => by unfold swR; split; rfl; split <;> rfl
  constructor
  · intro h k hk
    by_cases k1 : k = a
    · have := h b hb; rw [e, if_pos rfl] at this; rw [k1]; exact this
    · by_cases k2 : k = b
      · have := h a ha
        rw [e] at this
        by_cases z : a = b
        · subst z; exact absurd k2 k1
        · rw [if_neg z, if_pos rfl] at this; rw [k2]; exact this
      · have := h k hk; rw [e, if_neg k2, if_neg k1] at this; exact this
  · intro h k hk
    rw [e]
    refine h _ ?_
    split
    · exact ha
    · split
      · exact hb
      · exact hk
theorem kn_el {w m : Nat} {R : Mat} {a p : Nat} (ha : a < m) (hp : R a p ≠ 0) (y : Nat → Int) : Kn w m (elR w m R a p) y ↔ Kn w m R y := by
  have key : ∀ k, dot (R a) y w = 0 → (dot (crR w (R k) (R a) p) y w = 0 ↔ dot (R k) y w = 0) := fun k h0 => by
    unfold crR
    rw [dot_low, dot_sub, h0, Int.mul_zero, Int.sub_zero]
    constructor
    · intro e; rcases Int.mul_eq_zero.mp e with z | z
      · exact absurd z hp
      · exact z
    · intro e; rw [e, Int.mul_zero]
  have ea : elR w m R a p a = R a := by unfold elR; rw [if_neg (fun z => z.2.1 rfl)]
  constructor
  · intro h k hk
    have h0 := h a ha
    rw [ea] at h0
    by_cases c : k < m ∧ k ≠ a ∧ R k p ≠ 0
    · have := h k hk
      unfold elR at this
      rw [if_pos c] at this
      exact (key k h0).mp this
    · have := h k hk
      unfold elR at this
      rw [if_neg c] at this
      exact this
  · intro h k hk
    unfold elR
    split
    · exact (key k (h a ha)).mpr (h k hk)
    · exact h k hk
/-- what stands after c columns -/
structure Ech (w m c : Nat) (R0 R : Mat) (ps : List Nat) : Prop where
  len : ps.length ≤ m
  lt : ∀ q ∈ ps, q < c
  inc : ps.Pairwise (· < ·)
  piv : ∀ (i q : Nat), ps[i]? = some q → R i q ≠ 0 ∧ ∀ k, k < m → k ≠ i → R k q = 0
  out : ∀ q, q < c → q ∉ ps → ∀ k, ps.length ≤ k → k < m → R k q = 0
  kn : ∀ y, Kn w m R y ↔ Kn w m R0 y
def eb (b : Nat) : Nat → Nat
  | 0 => b
  | n + 1 => 2 * eb b n + 1
theorem bnd_sub' {k : Nat} {x y : Int} (h1 : bnd k x) (h2 : bnd k y) : bnd (k + 1) (x - y) := by
  unfold bnd at *
  rw [Nat.pow_succ]
  omega
theorem red_ech {w m : Nat} {R0 : Mat} : ∀ {c : Nat}, c ≤ w → Ech w m c R0 (redG w m R0 c).1 (redG w m R0 c).2
  | 0, _ => ⟨Nat.zero_le _, (fun q h => nomatch h), List.Pairwise.nil, (fun i q h => nomatch h), (fun q h => absurd h (Nat.not_lt_zero q)), fun y =>
      ⟨fun h k hk => (dot_low w _ y).mp (h k hk), fun h k hk => (dot_low w _ y).mpr (h k hk)⟩⟩
  | c + 1, hc => by
    have ih := red_ech (w := w) (m := m) (R0 := R0) (c := c) (by omega)
    unfold redG stepG
    generalize redG w m R0 c = s at ih ⊢
    obtain ⟨R, ps⟩ := s
    dsimp only at ih ⊢
    cases hf : fwN R c (m - ps.length) ps.length with
    | none =>
      dsimp only
      refine ⟨ih.len, fun q h => Nat.lt_succ_of_lt (ih.lt q h), ih.inc, ih.piv, fun q hq hn k h1 h2 => ?_, ih.kn⟩
      by_cases e : q = c
      · subst e; exact fwN_none hf k h1 (by have := ih.len; omega)
      · exact ih.out q (by omega) hn k h1 h2
    | some k0 =>
      dsimp only
      obtain ⟨f1, f2, f3⟩ := fwN_some hf
      have hk0 : k0 < m := by have := ih.len; omega
      have ha : ps.length < m := by omega
      generalize hS : swR R ps.length k0 = S
      have sa : S ps.length = R k0 := by
        rw [← hS]; unfold swR
        by_cases e : ps.length = k0
        · rw [if_pos e, e]
        · rw [if_neg e, if_pos rfl]
      have so : ∀ k, k < ps.length → S k = R k := fun k hk => by rw [← hS]; unfold swR; rw [if_neg (by omega), if_neg (by omega)]
      have sg : ∀ k, ps.length ≤ k → k < m → ∃ k', ps.length ≤ k' ∧ k' < m ∧ S k = R k' := fun k h1 h2 => by
        rw [← hS]; unfold swR
        by_cases e1 : k = k0
        · rw [if_pos e1]; exact ⟨_, Nat.le_refl _, ha, rfl⟩
        · rw [if_neg e1]
          by_cases e2 : k = ps.length
          · rw [if_pos e2]; exact ⟨_, f1, hk0, rfl⟩
          · rw [if_neg e2]; exact ⟨k, h1, h2, rfl⟩
      have sp : S ps.length c ≠ 0 := by rw [sa]; exact f3
      have ea : elR w m S ps.length c ps.length = S ps.length := by unfold elR; rw [if_neg (fun z => z.2.1 rfl)]
      -- a place where the pivot row has nothing
      have stay : ∀ k q, q < w → S ps.length q = 0 → (elR w m S ps.length c k q = 0 ↔ S k q = 0) := fun k q hq h0 => by
        unfold elR
        split
        · unfold crR
          rw [low_zero hq, h0, Int.zero_mul, Int.sub_zero]
          constructor
          · intro e; rcases Int.mul_eq_zero.mp e with z | z
            · exact z
            · exact absurd z sp
          · intro e; rw [e, Int.zero_mul]
        · exact Iff.rfl
      refine ⟨by rw [List.length_append, List.length_singleton]; omega, fun q h => ?_, ?_, fun i q hi => ?_, fun q hq hn k h1 h2 => ?_, fun y => ?_⟩
      · rcases List.mem_append.mp h with z | z
        · exact Nat.lt_succ_of_lt (ih.lt q z)
        · rw [List.mem_singleton.mp z]; exact Nat.lt_succ_self _
      · rw [List.pairwise_append]
        exact ⟨ih.inc, List.pairwise_singleton .., fun a h b hb => by rw [List.mem_singleton.mp hb]; exact ih.lt a h⟩
      · by_cases hlt : i < ps.length
        · rw [List.getElem?_append_left hlt] at hi
          obtain ⟨p1, p2⟩ := ih.piv i q hi
          have hqc : q < c := ih.lt q (List.mem_of_getElem? hi)
          have h0 : S ps.length q = 0 := by rw [sa]; exact p2 k0 hk0 (by omega)
          refine ⟨fun z => p1 ?_, fun k hk hne => (stay k q (by omega) h0).mpr ?_⟩
          · rw [← so i hlt]; exact (stay i q (by omega) h0).mp z
          · by_cases hk2 : k < ps.length
            · rw [so k hk2]; exact p2 k hk hne
            · obtain ⟨k', a1, a2, a3⟩ := sg k (by omega) hk
              rw [a3]; exact p2 k' a2 (by omega)
        · rw [List.getElem?_append_right (by omega)] at hi
          have hi0 : i = ps.length := by
            cases hz : i - ps.length with
            | zero => omega
            | succ n => rw [hz] at hi; cases hi
          subst hi0
          rw [Nat.sub_self] at hi
          cases hi
          refine ⟨by rw [ea]; exact sp, fun k hk hne => ?_⟩
          unfold elR
          by_cases z : S k c = 0
          · rw [if_neg (fun h => h.2.2 z)]; exact z
          · rw [if_pos ⟨hk, hne, z⟩]
            unfold crR
            rw [low_zero (by omega), Int.mul_comm, Int.sub_self]
      · rw [List.length_append, List.length_singleton] at h1
        have hqc : q ≠ c := fun z => hn (List.mem_append.mpr (.inr (List.mem_singleton.mpr z)))
        have hn' : q ∉ ps := fun z => hn (List.mem_append.mpr (.inl z))
        have h0 : S ps.length q = 0 := by rw [sa]; exact ih.out q (by omega) hn' k0 f1 hk0
        refine (stay k q (by omega) h0).mpr ?_
        obtain ⟨k', a1, a2, a3⟩ := sg k (by omega) h2
        rw [a3]
        exact ih.out q (by omega) hn' k' a1 a2
      · rw [kn_el ha sp, ← hS, kn_sw ha hk0]
        exact ih.kn y
/-! ### what the columns tell -/
theorem inc_lo : ∀ {ps : List Nat} {lo : Nat}, ps.Pairwise (· < ·) → (∀ q ∈ ps, lo ≤ q) → ∀ i q, ps[i]? = some q → lo + i ≤ q
  | [], lo, _, _, i, q, h => nomatch h
  | p :: ps, lo, hp, hl, 0, q, h => by cases h; exact hl p List.mem_cons_self
  | p :: ps, lo, hp, hl, i + 1, q, h => by
    have := inc_lo (lo := lo + 1) (List.pairwise_cons.mp hp).2 (fun q hq => by have := (List.pairwise_cons.mp hp).1 q hq; have := hl p List.mem_cons_self; omega) i q h
    omega
theorem inc_gap {n : Nat} {ps : List Nat} (h1 : ps.Pairwise (· < ·)) (h2 : ∀ q ∈ ps, q < n) (h3 : ps.length < n) : ∃ q, q < n ∧ q ∉ ps := by
  refine Classical.byContradiction fun h => ?_
  have h : ∀ q, q < n → q ∈ ps := fun q hq => Classical.byContradiction fun z => h ⟨q, hq, z⟩
  have key : ∀ i, i < ps.length → ps[i]? = some i := fun i => by
    induction i using Nat.strongRecOn with
    | _ i ih =>
      intro hi
      obtain ⟨k, hk⟩ := List.getElem?_of_mem (h i (by omega))
      have hkl := (List.getElem?_eq_some_iff.mp hk).1
      have := inc_lo (lo := 0) h1 (fun _ _ => Nat.zero_le _) k i hk
      by_cases e : k = i
      · rw [e] at hk; exact hk
      · have := ih k (by omega) hkl
        rw [hk] at this
        cases this
        exact absurd rfl e
  obtain ⟨k, hk⟩ := List.getElem?_of_mem (h ps.length h3)
  have hkl := (List.getElem?_eq_some_iff.mp hk).1
  have := key k hkl
  rw [hk] at this
  cases this
  exact absurd hkl (Nat.lt_irrefl _)
theorem idx_of {ps : List Nat} (hn : ps.Nodup) {i q : Nat} (h : ps[i]? = some q) : ps.idxOf q = i := by
  obtain ⟨hl, rfl⟩ := List.getElem?_eq_some_iff.mp h
  exact List.Nodup.idxOf_getElem hn i hl
theorem inc_nodup {ps : List Nat} (h : ps.Pairwise (· < ·)) : ps.Nodup := h.imp (fun h => Nat.ne_of_lt h)
end Dl

local macro_rules | `(tactic| walk_at "bx") => `(tactic| first | with_reducible assumption | (apply bnd_mul <;> walk_at "bx") | (apply bnd_addM <;> walk_at "bx") | (apply bnd_subM <;> walk_at "bx") | (apply bnd_negM <;> walk_at "bx") | exact bnd_lit (k := 8) (by decide) | exact bnd_lit (k := 64) (by decide) | (with_reducible (apply_assumption)))
local macro_rules | `(tactic| walk_at "bd") => `(tactic| first | with_reducible assumption | (apply bnd_mono; (walk_at "bx"); first | omega | decide))
/-! The D-layer, part 26: the program's rows and equations, read once. -/
namespace Dl
open PySem PySem.Spec
open PyProof.Rows L2
theorem bnd_addM {j k : Nat} {x y : Int} (h1 : bnd j x) (h2 : bnd k y) : bnd (max j k + 1) (x + y) := bnd_add (bnd_mono h1 (by omega)) (bnd_mono h2 (by omega))
theorem bnd_subM {j k : Nat} {x y : Int} (h1 : bnd j x) (h2 : bnd k y) : bnd (max j k + 1) (x - y) := bnd_sub' (bnd_mono h1 (by omega)) (bnd_mono h2 (by omega))
theorem bnd_negM {k : Nat} {x : Int} (h1 : bnd k x) : bnd k (-x) := by unfold bnd at *; omega
theorem bnd_lit {k : Nat} {x : Int} (h : x.natAbs < 2 ^ k) : bnd k x := h
local macro_rules | `(tactic| walk_at "sd") => `(tactic| first | with_reducible assumption | omega | with_reducible rfl | decide | exact few_of (by decide) | exact divOk_small (by decide) (by decide +kernel) | exact mulOk_r (by omega) (by omega) | exact mulOk_l (by omega) (by omega) | ((with_reducible apply mul_of); (walk_at "bx"); (walk_at "bx"); first | omega | decide) | exact few_of (by simp only [List.length_append, List.length_map, List.length_cons, List.length_nil, tab_len, List.length_replicate]; omega))
/-- a row of so many places -/
def rowW (w : Nat) (r : Nat → Int) : D := .tup (tabD w r)
end Dl

/-! The D-layer, part 27: reduced, solution, solved. -/
namespace Dl
open PySem PySem.Spec
open PyProof.Rows L2
local macro_rules | `(tactic| walk_at "sd") => `(tactic| first | with_reducible assumption | omega | with_reducible rfl | exact (rfl : (_ : Bool) = true) | decide | exact few_of (by decide) | exact divOk_small (by decide) (by decide +kernel) | exact mulOk_r (by omega) (by omega) | exact mulOk_l (by omega) (by omega) | ((with_reducible apply mul_of); (walk_at "bx"); (walk_at "bx"); first | omega | decide) | exact few_of (by simp only [List.length_append, List.length_map, List.length_cons, List.length_nil, tab_len, List.length_replicate]; omega))
end Dl

/-! The D-layer, part 28: solution, solved. -/
namespace Dl
open PySem PySem.Spec
open PyProof.Rows L2
local macro_rules | `(tactic| walk_at "sd") => `(tactic| first | with_reducible assumption | omega | with_reducible rfl | exact (rfl : (_ : Bool) = true) | decide | exact few_of (by decide) | exact divOk_small (by decide) (by decide +kernel) | exact mulOk_r (by omega) (by omega) | exact mulOk_l (by omega) (by omega) | ((with_reducible apply mul_of); (walk_at "bx"); (walk_at "bx"); first | omega | decide) | exact few_of (by simp only [List.length_append, List.length_map, List.length_cons, List.length_nil, tab_len, List.length_replicate]; omega))
def badG (m c : Nat) (R : Mat) (n : Nat) : Bool := (List.range m).any fun k => decide (n ≤ k) && decide (R k c ≠ 0)
end Dl

/-! The D-layer, part 29: is_fraction; the law's rows along points. -/
namespace Dl
open PySem PySem.Spec
open PyProof.Rows L2
local macro_rules | `(tactic| walk_at "sd") => `(tactic| first | with_reducible assumption | omega | with_reducible rfl | exact (rfl : (_ : Bool) = true) | decide | exact few_of (by decide) | exact divOk_small (by decide) (by decide +kernel) | exact mulOk_r (by omega) (by omega) | exact mulOk_l (by omega) (by omega) | ((with_reducible apply mul_of); (walk_at "bx"); (walk_at "bx"); first | omega | decide) | exact few_of (by simp only [List.length_append, List.length_map, List.length_cons, List.length_nil, tab_len, List.length_replicate]; omega))
/-! ### rows along points, by the law's way -/
end Dl

/-! The D-layer, part 30: a, b = a list or a tuple. -/
namespace Dl
open PySem PySem.Spec
open PyProof.Rows L2
section
variable {X : Cx} {es : List Expr} {pos : Pos}
theorem pg_or {e : Expr} {t t' : TG} (h : PG X e t) (h' : PG X e t') : PG X e (fun v σ H Q => t v σ H Q ∨ t' v σ H Q) :=
  ⟨fun pins s σ H v u Q I r q => q.elim (fun q => h.run pins s σ H v u Q I r q) fun q => h'.run pins s σ H v u Q I r q⟩
def gTq (n : Nat) (u : List D → Env' → (Env' → Prop) → Prop) : DG := fun d ρ Q => match d with
  | .tup ds => ds.length = n ∧ u ds ρ Q
  | .lst ds => ds.length = n ∧ u ds ρ Q
  | .frl ds => ds.length = n ∧ u ds ρ Q
  | .mu ds => ds.length = n ∧ u ds ρ Q
  | _ => False
theorem rg_tuq {k n : Nat} {js : List Nat} {u : List D → Env' → (Env' → Prop) → Prop} (h : RGs X es js u) (hc : X.calm = true := by rfl) (hn : (assignEach es X.env).length = n := by rfl) (hst : (assignEach es X.env).findIdx? (·.1) = none := by rfl) : RG X (.Tuple es k pos) js (gTq n u) := by
  obtain ⟨g1, h1, h2⟩ := h.run
  refine ⟨_, pg_or (pg_tup hc h1 hn hst) (pg_lst hc h1 hn hst), fun ρ σ F H d v Qd Q hl e r kk q => ?_⟩
  cases d <;> first | exact False.elim q | skip
  · cases r with
    | tup s l r => exact .inl ⟨_, _, rfl, SqT.of (e _ _ s), by rw [r.length]; exact q.1, h2 ρ σ F H _ _ _ _ hl e r kk q.2⟩
  · cases r with
    | lst s _ l r => exact .inr ⟨_, _, rfl, SqL.of (e _ _ s), by rw [r.length]; exact q.1, h2 ρ σ F H _ _ _ _ hl e r kk q.2⟩
  · cases r with
    | frl s l r => exact .inr ⟨_, _, rfl, same_seqL e (same_seqL F.kh_same s), by rw [r.length]; exact q.1, h2 ρ σ F H _ _ _ _ hl e r kk q.2⟩
  · cases r with
    | mu s _ l r => exact .inr ⟨_, _, rfl, SqL.of (e _ _ s), by rw [r.length]; exact q.1, h2 ρ σ F H _ _ _ _ hl e r kk q.2⟩
end
end Dl

/-! The D-layer, part 31: try, except; classes made. -/
namespace Dl
open PySem PySem.Spec
open PyProof.Rows L2
/-! ### a slot is cleared -/
def liftS (K : PySem.W.Frag) (W : WX) (t : DS) : TS := fun D σ H => ∃ (F0 : Fz) (H0 : Hp) (ρ : Env') (F : Fz) (d : DE), Ent K F0 H0 ρ σ F H ∧ Cnt K W F0 H0 d D ∧ t d ρ
theorem RSs.lift {X : Cx} {W : WX} {b : List Stmt} {t : DS} (h : RSs X W b t) : PSs X b (liftS X.K W t) := by
  obtain ⟨ts, h1, h2⟩ := h.run
  exact ⟨fun pins s σ H D I ⟨F0, H0, ρ, F, d, en, c, q⟩ => h1.run pins s σ H D I (h2 F0 H0 ρ σ F H D d en c q)⟩
section
variable {X : Cx} {W : WX} {body suite : List Stmt} {b₀ : Stmt} {pos pos' np : Pos} {t : DS}
/-! ### try -/
end
end Dl

/-! The D-layer, part 32: __init__ keeps its promise. -/
namespace Dl
open PySem PySem.Spec
open PyProof.Rows L2
def startI (C : Addr × Addr) (N : List Str) (ds : List D) : Env' := .oi C [] :: (ds.map .sh ++ List.replicate (N.length - (ds.length + 1)) .no)
/-- behind an __init__ -/
def atI0 (C : Addr × Addr) (Q : List (Str × D) → Prop) (ρ : Env') : Prop := match ρ with
  | .oi C' fs :: _ => C' = C ∧ Q fs
  | _ => False
abbrev dEI (C : Addr × Addr) (Q : List (Str × D) → Prop) (E : EQ) : DE := ⟨atI0 C Q, fun _ => False, fun _ => False, fun _ => False, fun _ => E, fun _ => False, fun _ _ => False⟩
theorem Rl.oi0 {K : PySem.W.Frag} {d : D} {ρ : Env'} {σ : L2.St} {F : Fz} {H : Hp} {x C dx : Addr} (r : Rl K (.sh d :: ρ) σ F H) (no : ∀ (i : Nat) (s : Sl), ρ[i]? = some s → ¬ s.own = true) (hs : σ[0]? = some (some (.ref x))) (hx : H x = some (.ins C dx [])) (fx : F x = none) :
    Rl K (.oi (C, x) [] :: ρ) σ F H where
  len := r.len
  fh := r.fh
  sh := fun i d' e => match i, e with
    | i + 1, e => r.sh (i + 1) d' e
  ow := fun i ds e => match i, e with
    | i + 1, e => absurd rfl (no i _ e)
  oi := fun i C' fs e => match i, e with
    | 0, e => by cases e; exact ⟨x, dx, [], hs, hx, fx, .nil, rfl⟩
    | i + 1, e => absurd rfl (no i _ e)
  od := fun i kvs e => match i, e with
    | i + 1, e => absurd rfl (no i _ e)
  inj := fun i j s t v h1 o1 h2 o2 _ _ => match i, j, h1, h2 with
    | 0, 0, _, _ => rfl
    | i + 1, _, h1, _ => absurd o1 (no i _ h1)
    | _, j + 1, _, h2 => absurd o2 (no j _ h2)
theorem def_okI {P : Program} {w : World} {K : PySem.W.Frag} {mg : Str → Option Value} {base : Heap} {name qual : Str} {st : Stmt} {f C : Addr} {N ps : List Str} {k n : Nat} {G : DI} {tb : DS} {oc dV kV doc pm cdv ct : Value} {od an : Option Addr} {osl : Array (Option Value)}
    (lk : K.lookup f = some ⟨oc, od, .func (PySem.W.fnOf name qual (defArgs st) (defBody st) (defScope st) dV kV doc pm an cdv ct), osl⟩) (hcd : PySem.W.codeIn K cdv qual = true) (S : FnScope N ps (defScope st)) (hn : ps.length = n)
    (body : ∀ (cdv : Value) (A : Around) (outer : List Env) (s : Shared) (H : Hp) (E : XK), Room k (A.deeper (envOfC qual (defScope st) s.heap.objs.size f cdv)) → RSs (cxOf (L2.CX P w) P w K mg base N qual (defScope st) f cdv A outer s H E) (WF E) (defBody st) tb)
    (read : ∀ x ds Q E, ds.length + 1 = n → G ds Q E → tb (dEI (C, x) Q E) (startI (C, x) N ds)) :
    FnOk P w K mg base (L2.CX P w) (k + 1) f (PySem.W.fnOf name qual (defArgs st) (defBody st) (defScope st) dV kV doc pm an cdv ct) ps (spI K n C G) := by
  refine fn_of lk hcd S (fun vs H Q E h => ?_) fun A outer s H vs Q E hr h => ?_
  · obtain ⟨ds, F, H1, x, dx, us, Qd, Ed, rfl, _, _, _, _, _, r, hl, _⟩ := h
    rw [List.length_cons, r.length, hl, hn]
  · obtain ⟨ts, h1, h2⟩ := (body cdv A outer s H E hr).run
    refine ⟨ts, h1, ?_⟩
    obtain ⟨ds, F1, H1, x, dx, us, Qd, Ed, rfl, hH, nx, ndx, ne, sf, r, hl, g, k1, k2⟩ := h
    have s1 : Same H1 H := by
      rw [hH]
      exact (same_upd ndx).trans (same_upd (by rw [upd_ne (Ne.symm ne)]; exact nx))
    have hx : H x = some (.ins C dx []) := by rw [hH]; exact upd_same
    have fx : F1 x = none := by
      cases e : F1 x with
      | none => rfl
      | some o => have := sf _ _ e; rw [nx] at this; cases this
    have sfH : Same F1 H := sf.trans s1
    have rl := start_rl (N := N) sfH (Reps.cons (Rep.ob (.ref x)) r)
    have no : ∀ (i : Nat) (s : Sl), (ds.map Sl.sh ++ List.replicate (N.length - (ds.length + 1)) Sl.no)[i]? = some s → ¬ s.own = true := fun i s h => start_own (N := N) (ds := .ob (.ref x) :: ds) (i := i + 1) h
    have hs0 : (L2.start N (V.ref x :: us))[0]? = some (some (.ref x)) := by
      unfold L2.start
      rfl
    have rl2 : Rl K (startI (C, x) N ds) (L2.start N (.ref x :: us)) F1 H := rl.oi0 no hs0 hx fx
    have go : Go F1 H1 F1 H := ⟨SameF.refl _, s1, sfH, fun _ h _ => h⟩
    refine h2 F1 H1 (startI (C, x) N ds) _ F1 H _ (dEI (C, x) Qd Ed) ⟨rl2, go, fun i s p h o hs => ?_⟩ ⟨fun ρ σ F' H' e q => ?_, fun _ _ _ _ _ _ q => q.elim, fun _ _ _ _ _ q => q.elim, fun _ _ _ _ _ q => q.elim, fun ρ σ F' H' e x cls dx F2 H2 g r q => k2 x cls dx F2 H2 (e.go.trans g) r q, fun _ _ _ _ _ _ q => q.elim, fun _ _ _ _ _ _ _ _ _ _ _ _ q => q.elim⟩ (read x ds Qd Ed hl g)
    · cases i with
      | zero =>
        rw [hs0] at hs
        cases hs
        exact nx
      | succ i => exact absurd o (no i s h)
    · have q : atI0 (C, x) Qd ρ := q
      unfold atI0 at q
      split at q
      · rename_i C' fs tl hq
        obtain ⟨rfl, q⟩ := q
        obtain ⟨p, dx', ws, g1, g2, g3, g4, rfl⟩ := e.rl.oi 0 (C, x) fs rfl
        exact k1 fs ws F' H' dx' e.go g2 g3 g4 q
      · exact q.elim
end Dl

/-! The D-layer, part 33: what classes answer to isinstance and except. -/
namespace Dl
open PySem PySem.Spec
open PyProof.Rows L2
theorem kitcls_of {K : PySem.W.Frag} {t : Value} {C : Addr} {b : Bool} (h2 : PySem.W.isClsIn K C = true) (h3 : PySem.W.typeIn K (.ref C) = some (.type "type")) (h4 : PySem.W.subIn K t (.ref C) = some b) : PySem.W.kitCls K t (.ref C) = some b := by
  have e2 : ((PySem.W.clsIn K C).isSome && PySem.W.typeIn K (.ref C) == some (.type "type")) = true := by
    have h2' : (PySem.W.clsIn K C).isSome = true := h2
    rw [h2', h3] <;> rfl
  show (if ((PySem.W.clsIn K C).isSome && PySem.W.typeIn K (.ref C) == some (.type "type")) = true then PySem.W.subIn K t (.ref C) else none) = some b
  rw [if_pos e2]
  exact h4
theorem kit_of {K : PySem.W.Frag} {t : Value} {C : Addr} {b : Bool} (h2 : PySem.W.isClsIn K C = true) (h3 : PySem.W.typeIn K (.ref C) = some (.type "type")) (h4 : PySem.W.subIn K t (.ref C) = some b) (hne : (t == .ref C) = true → b = true) : PySem.W.kitOne K t (.ref C) = some b := by
  unfold PySem.W.kitOne
  by_cases h : (t == .ref C) = true
  · rw [if_pos h, hne h]
  · rw [if_neg h]; exact kitcls_of h2 h3 h4
end Dl

/-! The D-layer, part 34: a tuple times 0, 1; a list == []. -/
namespace Dl
open PySem PySem.Spec
open PyProof.Rows L2
section
variable {X : Cx}
/-! ### lists of unlike lengths -/
theorem op_eqLen (hu : X.A.units + 64 < cLine) : OpR X (compareOp .Eq) (fun x y H Q => ∃ a b xs ys, x = .ref a ∧ y = .ref b ∧ SqL X.K H a xs ∧ SqL X.K H b ys ∧ xs.length ≠ ys.length ∧ Q (.bl false) H) := by
  intro pins s σ H x y v u Q I rx ry h
  obtain ⟨a, b, xs, ys, rfl, rfl, h1, h2, hne, q⟩ := h
  cases rx
  cases ry
  obtain ⟨its, r, pl, -⟩ := I.list h1
  obtain ⟨its2, r2, pl2, -⟩ := I.list h2
  refine SeqAt.eq_list_lengthsAt pl.isList pl2.isList ?_ (by omega) ⟨.bl false, H, I, rfl, q⟩
  rw [List.size_toArray, List.size_toArray, ← r.length, ← r2.length]
  exact bne_iff_ne.mpr hne
/-- a list == [], whatever is in it -/
def kEqZ : KD := fun x y Q => match x, y with
  | .lst (_ :: _), .lst [] => Q (.bl false)
  | x, y => kEq x y Q
theorem opd_eqZ (hu : X.A.units + 64 < cLine) : OpD X (compareOp .Eq) kEqZ := by
  have base : OpD X (compareOp .Eq) (fun x y Q => match x, y with | .lst (_ :: _), .lst [] => Q (.bl false) | _, _ => False) := by
    refine ⟨_, op_eqLen hu, fun x y vx vy F H Qd Q e px py kk q => ?_⟩
    dsimp only at q
    split at q
    · obtain ⟨p, vs, rfl, h1, l1, r1⟩ := px.lst e
      obtain ⟨p', vs', rfl, h1', l1', r1'⟩ := py.lst e
      refine ⟨p, p', vs, vs', rfl, rfl, SqL.of h1, SqL.of h1', ?_, kk _ _ F H (.refl e) (.bl _) q⟩
      rw [r1.length, r1'.length]
      exact fun z => nomatch z
    · exact q.elim
  refine (base.or (opd_eq hu)).imp fun x y Q h => ?_
  unfold kEqZ at h
  split at h
  · exact .inl h
  · exact .inr h
end
end Dl

/-! The D-layer, part 35: things, read once. -/
namespace Dl
open PySem PySem.Spec
open PyProof.Rows L2
local macro_rules | `(tactic| walk_at "sd") => `(tactic| first | with_reducible assumption | omega | with_reducible rfl | exact (rfl : (_ : Bool) = true) | decide | exact few_of (by decide) | exact divOk_small (by decide) (by decide +kernel) | exact mulOk_r (by omega) (by omega) | exact mulOk_l (by omega) (by omega) | ((with_reducible apply mul_of); (walk_at "bx"); (walk_at "bx"); first | omega | decide) | exact few_of (by simp only [List.length_append, List.length_map, List.length_cons, List.length_nil, tab_len, List.length_replicate]; omega))
structure ThK (K : PySem.W.Frag) (C_Mode C_Thing : Addr) : Prop where
  f_Mode_rows : FldOk K C_Mode "rows"
  f_Mode_nexts : FldOk K C_Mode "nexts"
  f_Mode_steer : FldOk K C_Mode "steer"
  f_Mode_push : FldOk K C_Mode "push"
  f_Mode_add : FldOk K C_Mode "add"
  f_Mode_divisor : FldOk K C_Mode "divisor"
  f_Thing_many : FldOk K C_Thing "many"
  f_Thing_bounds : FldOk K C_Thing "bounds"
  f_Thing_ways : FldOk K C_Thing "ways"
  i_Mode : InsTy K C_Mode
  i_Thing : InsTy K C_Thing
  k_Mode_Mode : PySem.W.kitOne K (.ref C_Mode) (.ref C_Mode) = some true
  n_int_Mode : PySem.W.kitOne K (.type "int") (.ref C_Mode) = some false
  n_bool_Mode : PySem.W.kitOne K (.type "bool") (.ref C_Mode) = some false
  n_NoneType_Mode : PySem.W.kitOne K (.type "NoneType") (.ref C_Mode) = some false
  n_str_Mode : PySem.W.kitOne K (.type "str") (.ref C_Mode) = some false
  n_tuple_Mode : PySem.W.kitOne K (.type "tuple") (.ref C_Mode) = some false
  n_list_Mode : PySem.W.kitOne K (.type "list") (.ref C_Mode) = some false
  n_dict_Mode : PySem.W.kitOne K (.type "dict") (.ref C_Mode) = some false
/-! ### kinds -/
def isWhB (d : D) : Bool := match d with
  | .int _ => true
  | _ => false
theorem isWh_some {d : D} (h : isWh d ≠ none) : isWh d = some (isWhB d) := by
  cases d <;> first
    | rfl
    | exact absurd rfl h
/-- known things: no raw ones, no list that is only lent -/
def knD (d : D) : Prop := tyN d ≠ none ∧ ∀ xs, d ≠ .frl xs
def kw (d : D) : Prop := knD d ∧ ∀ xs, (d = .lst xs ∨ d = .tup xs) → ∀ x ∈ xs, isWh x ≠ none
def awB (d : D) (k : Int) : Bool := match d with
  | .lst xs => decide ((xs.length : Int) = k) && xs.all isWhB
  | _ => false
def rwB (d : D) (k : Int) : Bool := match d with
  | .tup xs => decide ((xs.length : Int) = k + 1) && xs.all isWhB
  | _ => false
def rmB (d : D) (k : Int) : Bool := match d with
  | .lst xs => xs.all fun r => rwB r k
  | _ => false
def tbB (d : D) (k w : Int) : Bool := match d with
  | .lst xs => decide ((xs.length : Int) = k) && xs.all fun r => awB r w
  | _ => false
def kws (d : D) : Prop := knD d ∧ ∀ xs, d = .lst xs → ∀ x ∈ xs, kw x
theorem all_map_bl {α : Type} (f : α → Bool) (xs : List α) : blsOf (xs.map fun x => D.bl (f x)) = some (xs.map f) := by
  rw [show xs.map (fun x => D.bl (f x)) = (xs.map f).map D.bl by rw [List.map_map]; rfl, blsOf_map]
theorem all_map_id {α : Type} (f : α → Bool) (xs : List α) : (xs.map f).all id = xs.all f := by rw [List.all_map]; rfl
abbrev g_own_list : DF := fun ds Q _ => ∃ d, ds = [d] ∧ knD d ∧ Q d
abbrev N_own_list : List Str := ["thing"]
def tb_own_list (K : PySem.W.Frag) : DS :=
  (dSq (dIf (dTest (dCB (kIsi K) (dCons (dVarP 0) (dCons (dC (.ty "list")) dNil)))) (dRet (dCB kList (dCons (dVarP 0) dNil))) dNext) (dRet (dVar 0)))
theorem rd_own_list {K : PySem.W.Frag} (ds : List D) (Q E : EQ) (_ : ds.length = 1) (h : g_own_list ds Q E) : tb_own_list K (dE Q E) (startD N_own_list ds) := by
  obtain ⟨d, rfl, hd, q⟩ := h
  unfold tb_own_list dE
  cases d <;> first
    | exact absurd rfl hd.1
    | exact absurd rfl (hd.2 _)
    | (walk_at "go"; exact q)
/-- what own copies -/
def ko (d : D) : Prop := knD d ∧ ∀ xs, d = .lst xs → ∀ x ∈ xs, knD x
abbrev g_own : DF := fun ds Q _ => ∃ d, ds = [d] ∧ ko d ∧ Q d
abbrev N_own : List Str := ["thing", "one"]
def tb_own (K : PySem.W.Frag) : DS :=
  (dSq (dIf (dNot (dTest (dCB (kIsi K) (dCons (dVarP 0) (dCons (dC (.ty "list")) dNil))))) (dRet (dVar 0)) dNext) (dRet (dFz (dLcN (dSeq (dVar 0)) (gNm 1) dYes (dCall 1 [] g_own_list (dCons (dVar 1) dNil)) [1]))))
theorem rd_own {K : PySem.W.Frag} (ds : List D) (Q E : EQ) (_ : ds.length = 1) (h : g_own ds Q E) : tb_own K (dE Q E) (startD N_own ds) := by
  obtain ⟨d, rfl, hd, q⟩ := h
  unfold tb_own dE
  cases d with
  | lst xs =>
    walk_at "go"
    refine compL_map id _ _ (fun e he K1 K0 hK => ?_) (by rw [List.map_id, List.nil_append]; exact q)
    walk_at "go"
    exact ⟨e, rfl, hd.2 xs rfl e he, hK⟩
  | _ => first
    | exact absurd rfl hd.1.1
    | exact absurd rfl (hd.1.2 _)
    | (walk_at "go"; exact q)
abbrev g_are_wholes : DF := fun ds Q _ => ∃ (d : D) (k : Int), ds = [d, .int k] ∧ kw d ∧ Q (.bl (awB d k))
abbrev N_are_wholes : List Str := ["thing", "many", "one"]
def tb_are_wholes (K : PySem.W.Frag) : DS :=
  (dRet (dAndV (dCB (kIsi K) (dCons (dVarP 0) (dCons (dC (.ty "list")) dNil))) (dAndV (dOp kEq (dCB kLen (dCons (dVarP 0) dNil)) (dVarP 1)) (dCB kAll (dCons (dFz (dLcN (dSeq (dVar 0)) (gNm 2) dYes (dCall 1 [] g_is_whole (dCons (dVar 2) dNil)) [2])) dNil)))))
theorem rd_are_wholes {K : PySem.W.Frag} (ds : List D) (Q E : EQ) (_ : ds.length = 2) (h : g_are_wholes ds Q E) : tb_are_wholes K (dE Q E) (startD N_are_wholes ds) := by
  obtain ⟨d, k, rfl, hd, q⟩ := h
  unfold tb_are_wholes dE
  cases d with
  | lst xs =>
    have q : Q (.bl (decide ((xs.length : Int) = k) && xs.all isWhB)) := q
    walk_at "go"
    by_cases h0 : (xs.length : Int) = k
    · rw [decide_eq_true h0] at q ⊢
      walk_at "go"
      refine compL_map (fun d => .bl (isWhB d)) _ _ (fun e he K1 K0 hK => ?_) ?_
      · walk_at "go"
        exact ⟨e, _, rfl, isWh_some (hd.2 xs (.inl rfl) e he), hK⟩
      · rw [List.nil_append]
        walk_at "rd"
        rw [all_map_bl]
        walk_at "rd"
        rw [all_map_id]
        exact q
    · rw [decide_eq_false h0] at q ⊢
      walk_at "go"
      exact q
  | _ => first
    | exact absurd rfl hd.1.1
    | exact absurd rfl (hd.1.2 _)
    | (walk_at "go"; exact q)
abbrev g_is_row : DF := fun ds Q _ => ∃ (d : D) (k : Int), ds = [d, .int k] ∧ kw d ∧ Q (.bl (rwB d k))
abbrev N_is_row : List Str := ["thing", "many", "one"]
def tb_is_row (K : PySem.W.Frag) : DS :=
  (dRet (dAndV (dCB (kIsi K) (dCons (dVarP 0) (dCons (dC (.ty "tuple")) dNil))) (dAndV (dOp kEq (dCB kLen (dCons (dVarP 0) dNil)) (dOp kAdd (dVarP 1) (dC (.int 1)))) (dCB kAll (dCons (dFz (dLcN (dSeq (dVar 0)) (gNm 2) dYes (dCall 1 [] g_is_whole (dCons (dVar 2) dNil)) [2])) dNil)))))
theorem rd_is_row {K : PySem.W.Frag} (ds : List D) (Q E : EQ) (_ : ds.length = 2) (h : g_is_row ds Q E) : tb_is_row K (dE Q E) (startD N_is_row ds) := by
  obtain ⟨d, k, rfl, hd, q⟩ := h
  unfold tb_is_row dE
  cases d with
  | tup xs =>
    have q : Q (.bl (decide ((xs.length : Int) = k + 1) && xs.all isWhB)) := q
    walk_at "go"
    by_cases h0 : (xs.length : Int) = k + 1
    · rw [decide_eq_true h0] at q ⊢
      walk_at "go"
      refine compL_map (fun d => .bl (isWhB d)) _ _ (fun e he K1 K0 hK => ?_) ?_
      · walk_at "go"
        exact ⟨e, _, rfl, isWh_some (hd.2 xs (.inr rfl) e he), hK⟩
      · rw [List.nil_append]
        walk_at "rd"
        rw [all_map_bl]
        walk_at "rd"
        rw [all_map_id]
        exact q
    · rw [decide_eq_false h0] at q ⊢
      walk_at "go"
      exact q
  | _ => first
    | exact absurd rfl hd.1.1
    | exact absurd rfl (hd.1.2 _)
    | (walk_at "go"; exact q)
abbrev g_is_room : DF := fun ds Q _ => ∃ (d : D) (k : Int), ds = [d, .int k] ∧ kws d ∧ Q (.bl (rmB d k))
abbrev N_is_room : List Str := ["thing", "many", "row"]
def tb_is_room (K : PySem.W.Frag) : DS :=
  (dRet (dAndV (dCB (kIsi K) (dCons (dVarP 0) (dCons (dC (.ty "list")) dNil))) (dCB kAll (dCons (dFz (dLcN (dSeq (dVar 0)) (gNm 2) dYes (dCall 2 [] g_is_row (dCons (dVar 2) (dCons (dVar 1) dNil))) [2])) dNil))))
theorem rd_is_room {K : PySem.W.Frag} (ds : List D) (Q E : EQ) (_ : ds.length = 2) (h : g_is_room ds Q E) : tb_is_room K (dE Q E) (startD N_is_room ds) := by
  obtain ⟨d, k, rfl, hd, q⟩ := h
  unfold tb_is_room dE
  cases d with
  | lst xs =>
    have q : Q (.bl (xs.all fun r => rwB r k)) := q
    walk_at "go"
    refine compL_map (fun d => .bl (rwB d k)) _ _ (fun e he K1 K0 hK => ?_) ?_
    · walk_at "go"
      exact ⟨e, k, rfl, hd.2 xs rfl e he, hK⟩
    · rw [List.nil_append]
      walk_at "rd"
      rw [all_map_bl (fun d => rwB d k)]
      walk_at "rd"
      rw [all_map_id]
      exact q
  | _ => first
    | exact absurd rfl hd.1.1
    | exact absurd rfl (hd.1.2 _)
    | (walk_at "go"; exact q)
abbrev g_is_table : DF := fun ds Q _ => ∃ (d : D) (k w : Int), ds = [d, .int k, .int w] ∧ kws d ∧ Q (.bl (tbB d k w))
abbrev N_is_table : List Str := ["thing", "many", "wide", "one"]
def tb_is_table (K : PySem.W.Frag) : DS :=
  (dRet (dAndV (dCB (kIsi K) (dCons (dVarP 0) (dCons (dC (.ty "list")) dNil))) (dAndV (dOp kEq (dCB kLen (dCons (dVarP 0) dNil)) (dVarP 1)) (dCB kAll (dCons (dFz (dLcN (dSeq (dVar 0)) (gNm 3) dYes (dCall 2 [] g_are_wholes (dCons (dVar 3) (dCons (dVar 2) dNil))) [3])) dNil)))))
theorem rd_is_table {K : PySem.W.Frag} (ds : List D) (Q E : EQ) (_ : ds.length = 3) (h : g_is_table ds Q E) : tb_is_table K (dE Q E) (startD N_is_table ds) := by
  obtain ⟨d, k, w, rfl, hd, q⟩ := h
  unfold tb_is_table dE
  cases d with
  | lst xs =>
    have q : Q (.bl (decide ((xs.length : Int) = k) && xs.all fun r => awB r w)) := q
    walk_at "go"
    by_cases h0 : (xs.length : Int) = k
    · rw [decide_eq_true h0] at q ⊢
      walk_at "go"
      refine compL_map (fun d => .bl (awB d w)) _ _ (fun e he K1 K0 hK => ?_) ?_
      · walk_at "go"
        exact ⟨e, w, rfl, hd.2 xs rfl e he, hK⟩
      · rw [List.nil_append]
        walk_at "rd"
        rw [all_map_bl (fun d => awB d w)]
        walk_at "rd"
        rw [all_map_id]
        exact q
    · rw [decide_eq_false h0] at q ⊢
      walk_at "go"
      exact q
  | _ => first
    | exact absurd rfl hd.1.1
    | exact absurd rfl (hd.1.2 _)
    | (walk_at "go"; exact q)
/-! ### modes -/
def mdF (a b c d e f : D) : List (Str × D) := [("rows", a), ("nexts", b), ("steer", c), ("push", d), ("add", e), ("divisor", f)]
abbrev g_Mode_init : DI := fun ds Q _ => ∃ a b c d e f, ds = [a, b, c, d, e, f] ∧ ko a ∧ ko b ∧ ko c ∧ ko d ∧ ko e ∧ Q (mdF a b c d e f)
abbrev N_Mode_init : List Str := ["self", "rows", "nexts", "steer", "push", "add", "divisor"]
def tb_Mode_init (K : PySem.W.Frag) : DS :=
  (dSq (dPutF K 0 "rows" (dCall 1 [] g_own (dCons (dVar 1) dNil))) (dSq (dPutF K 0 "nexts" (dCall 1 [] g_own (dCons (dVar 2) dNil))) (dSq (dPutF K 0 "steer" (dCall 1 [] g_own (dCons (dVar 3) dNil))) (dSq (dPutF K 0 "push" (dCall 1 [] g_own (dCons (dVar 4) dNil))) (dSq (dPutF K 0 "add" (dCall 1 [] g_own (dCons (dVar 5) dNil))) (dPutF K 0 "divisor" (dVar 6)))))))
theorem rd_Mode_init {K : PySem.W.Frag} {CM CT : Addr} (hK : ThK K CM CT) (x : Addr) (ds : List D) (Q : List (Str × D) → Prop) (E : EQ) (_ : ds.length + 1 = 7) (h : g_Mode_init ds Q E) : tb_Mode_init K (dEI (CM, x) Q E) (startI (CM, x) N_Mode_init ds) := by
  obtain ⟨a, b, c, d, e, f, rfl, ha, hb, hc, hd, he, q⟩ := h
  have k1 := hK.f_Mode_rows
  have k2 := hK.f_Mode_nexts
  have k3 := hK.f_Mode_steer
  have k4 := hK.f_Mode_push
  have k5 := hK.f_Mode_add
  have k6 := hK.f_Mode_divisor
  unfold tb_Mode_init dEI startI
  walk_at "go"
  refine ⟨a, rfl, ha, ?_⟩
  walk_at "go"
  refine ⟨b, rfl, hb, ?_⟩
  walk_at "go"
  refine ⟨Nat.le_of_ble_eq_true rfl, ?_⟩
  walk_at "go"
  refine ⟨c, rfl, hc, ?_⟩
  walk_at "go"
  refine ⟨Nat.le_of_ble_eq_true rfl, ?_⟩
  walk_at "go"
  refine ⟨d, rfl, hd, ?_⟩
  walk_at "go"
  refine ⟨Nat.le_of_ble_eq_true rfl, ?_⟩
  walk_at "go"
  refine ⟨e, rfl, he, ?_⟩
  walk_at "go"
  refine ⟨Nat.le_of_ble_eq_true rfl, ?_⟩
  walk_at "go"
  refine ⟨Nat.le_of_ble_eq_true rfl, ?_⟩
  walk_at "go"
  exact q
def dvB (d : D) : Bool := match d with
  | .int z => decide (1 ≤ z)
  | _ => false
def mdB (C : Addr) (d : D) (n p : Int) : Bool := match d with
  | .ins C' [(_, a), (_, b), (_, c), (_, d), (_, e), (_, f)] => decide (C' = C) && (rmB a n && tbB b n n && awB c n && tbB d n p && awB e n && dvB f)
  | _ => false
/-- a mode, or something known that is none -/
def kM (C : Addr) (d : D) : Prop := (∃ a b c e f g, d = .ins C (mdF a b c e f g) ∧ kws a ∧ kws b ∧ kw c ∧ kws e ∧ kw f ∧ isWh g ≠ none) ∨ tyN d ≠ none
abbrev g_is_mode (C : Addr) : DF := fun ds Q _ => ∃ (d : D) (n p : Int), ds = [d, .int n, .int p] ∧ kM C d ∧ Q (.bl (mdB C d n p))
abbrev N_is_mode : List Str := ["thing", "many", "wide"]
def tb_is_mode (K : PySem.W.Frag) (C_Mode : Addr) : DS :=
  (dSq (dIf (dOr (dNot (dTest (dCB (kIsi K) (dCons (dVarP 0) (dCons (dC (.cls C_Mode)) dNil))))) (dOr (dNot (dTest (dCall 2 [] g_is_room (dCons (dFld K "rows" (dVar 0)) (dCons (dVar 1) dNil))))) (dNot (dTest (dCall 3 [] g_is_table (dCons (dFld K "nexts" (dVar 0)) (dCons (dVar 1) (dCons (dVar 1) dNil)))))))) (dRet (dC (.bl false))) dNext) (dSq (dIf (dOr (dNot (dTest (dCall 2 [] g_are_wholes (dCons (dFld K "steer" (dVar 0)) (dCons (dVar 1) dNil))))) (dOr (dNot (dTest (dCall 3 [] g_is_table (dCons (dFld K "push" (dVar 0)) (dCons (dVar 1) (dCons (dVar 2) dNil)))))) (dNot (dTest (dCall 2 [] g_are_wholes (dCons (dFld K "add" (dVar 0)) (dCons (dVar 1) dNil))))))) (dRet (dC (.bl false))) dNext) (dRet (dAndV (dCall 1 [] g_is_whole (dCons (dFld K "divisor" (dVar 0)) dNil)) (dOp kGe (dFld K "divisor" (dVar 0)) (dC (.int 1)))))))
theorem rd_is_mode {K : PySem.W.Frag} {CM CT : Addr} (hK : ThK K CM CT) (ds : List D) (Q E : EQ) (_ : ds.length = 3) (h : g_is_mode CM ds Q E) : tb_is_mode K CM (dE Q E) (startD N_is_mode ds) := by
  obtain ⟨d, n, p, rfl, hd, q⟩ := h
  have k1 := hK.f_Mode_rows
  have k2 := hK.f_Mode_nexts
  have k3 := hK.f_Mode_steer
  have k4 := hK.f_Mode_push
  have k5 := hK.f_Mode_add
  have k6 := hK.f_Mode_divisor
  have ki := hK.i_Mode
  unfold tb_is_mode dE
  rcases hd with ⟨a, b, c, e, f, g, rfl, ha, hb, hc, he, hf, hg⟩ | hd
  · have q : Q (.bl (decide (CM = CM) && (rmB a n && tbB b n n && awB c n && tbB e n p && awB f n && dvB g))) := q
    rw [decide_eq_true rfl, Bool.true_and] at q
    unfold mdF
    walk_at "go"
    rw [hK.k_Mode_Mode]
    walk_at "go"
    refine ⟨a, n, rfl, ha, ?_⟩
    cases h1 : rmB a n
    · rw [h1] at q; walk_at "go"; exact q
    rw [h1] at q
    walk_at "go"
    refine ⟨b, n, n, rfl, hb, ?_⟩
    cases h2 : tbB b n n
    · rw [h2] at q; walk_at "go"; exact q
    rw [h2] at q
    walk_at "go"
    refine ⟨c, n, rfl, hc, ?_⟩
    cases h3 : awB c n
    · rw [h3] at q; walk_at "go"; exact q
    rw [h3] at q
    walk_at "go"
    refine ⟨e, n, p, rfl, he, ?_⟩
    cases h4 : tbB e n p
    · rw [h4] at q; walk_at "go"; exact q
    rw [h4] at q
    walk_at "go"
    refine ⟨f, n, rfl, hf, ?_⟩
    cases h5 : awB f n
    · rw [h5] at q; walk_at "go"; exact q
    rw [h5] at q
    walk_at "go"
    refine ⟨g, _, rfl, isWh_some hg, ?_⟩
    cases g <;> first
      | (walk_at "go"; exact q)
      | exact absurd rfl hg
  · have ks : PySem.W.kitOne K (.type "int") (.ref CM) = some false ∧ PySem.W.kitOne K (.type "bool") (.ref CM) = some false ∧ PySem.W.kitOne K (.type "NoneType") (.ref CM) = some false ∧ PySem.W.kitOne K (.type "str") (.ref CM) = some false ∧ PySem.W.kitOne K (.type "tuple") (.ref CM) = some false ∧ PySem.W.kitOne K (.type "list") (.ref CM) = some false ∧ PySem.W.kitOne K (.type "dict") (.ref CM) = some false :=
      ⟨hK.n_int_Mode, hK.n_bool_Mode, hK.n_NoneType_Mode, hK.n_str_Mode, hK.n_tuple_Mode, hK.n_list_Mode, hK.n_dict_Mode⟩
    obtain ⟨z1, z2, z3, z4, z5, z6, z7⟩ := ks
    cases d <;> first
      | exact absurd rfl hd
      | (walk_at "go"; first | rw [z1] | rw [z2] | rw [z3] | rw [z4] | rw [z5] | rw [z6] | rw [z7]
         walk_at "go"; exact q)
end Dl

/-! The D-layer, part 36: things made, told. -/
namespace Dl
open PySem PySem.Spec
open PyProof.Rows L2
local macro_rules | `(tactic| walk_at "sd") => `(tactic| first | with_reducible assumption | omega | with_reducible rfl | exact (rfl : (_ : Bool) = true) | decide | exact few_of (by decide) | exact divOk_small (by decide) (by decide +kernel) | exact mulOk_r (by omega) (by omega) | exact mulOk_l (by omega) (by omega) | ((with_reducible apply mul_of); (walk_at "bx"); (walk_at "bx"); first | omega | decide) | exact few_of (by simp only [List.length_append, List.length_map, List.length_cons, List.length_nil, tab_len, List.length_replicate]; omega))
def psTwo : D → D → Bool
  | .int a, .int b => decide (a ≤ b)
  | _, _ => false
def psB (d : D) : Bool := match d with
  | .tup l => (match l with
    | [x, y] => psTwo x y
    | _ => false)
  | _ => false
def kP (d : D) : Prop := knD d ∧ ∀ x y, d = .tup [x, y] → isWh x ≠ none ∧ isWh y ≠ none
abbrev g_is_push : DF := fun ds Q _ => ∃ d, ds = [d] ∧ kP d ∧ Q (.bl (psB d))
abbrev N_is_push : List Str := ["thing"]
def tb_is_push (K : PySem.W.Frag) : DS :=
  (dSq (dIf (dOr (dNot (dTest (dCB (kIsi K) (dCons (dVarP 0) (dCons (dC (.ty "tuple")) dNil))))) (dOr (dTest (dOp kNe (dCB kLen (dCons (dVarP 0) dNil)) (dC (.int 2)))) (dOr (dNot (dTest (dCall 1 [] g_is_whole (dCons (dOp kIx (dVarP 0) (dC (.int 0))) dNil)))) (dNot (dTest (dCall 1 [] g_is_whole (dCons (dOp kIx (dVarP 0) (dC (.int 1))) dNil))))))) (dRet (dC (.bl false))) dNext) (dRet (dOp kLe (dOp kIx (dVarP 0) (dC (.int 0))) (dOp kIx (dVarP 0) (dC (.int 1))))))
theorem rd_is_push {K : PySem.W.Frag} (ds : List D) (Q E : EQ) (_ : ds.length = 1) (h : g_is_push ds Q E) : tb_is_push K (dE Q E) (startD N_is_push ds) := by
  obtain ⟨d, rfl, hd, q⟩ := h
  unfold tb_is_push dE
  cases d with
  | tup l =>
    match l, hd, q with
    | [], hd, q => walk_at "go"; exact q
    | [x], hd, q => walk_at "go"; exact q
    | [x, y], hd, q =>
      obtain ⟨hx, hy⟩ := hd.2 x y rfl
      walk_at "go"
      refine ⟨x, _, rfl, isWh_some hx, ?_⟩
      cases x <;> first
        | exact absurd rfl hx
        | (walk_at "go"; exact q)
        | skip
      walk_at "go"
      refine ⟨y, _, rfl, isWh_some hy, ?_⟩
      cases y <;> first
        | exact absurd rfl hy
        | (walk_at "go"; exact q)
    | x :: y :: z :: l, hd, q =>
      walk_at "go"
      exact q
  | _ => first
    | exact absurd rfl hd.1.1
    | exact absurd rfl (hd.1.2 _)
    | (walk_at "go"; exact q)
/-! ### things -/
def thF (m b w : D) : List (Str × D) := [("many", m), ("bounds", b), ("ways", w)]
def manyB (d : D) : Bool := match d with
  | .int n => decide (1 ≤ n) && decide (n ≤ 3)
  | _ => false
def psB' (d : D) : Bool := match d with
  | .lst xs => xs.all psB
  | _ => false
def msB (C : Addr) (n : Int) (d : D) (p : Int) : Bool := match d with
  | .lst (x :: xs) => (x :: xs).all fun m => mdB C m n p
  | _ => false
def lenD (d : D) : Nat := match d with
  | .lst xs => xs.length
  | _ => 0
def numD (d : D) : Int := match d with
  | .int n => n
  | _ => 0
def thB (C : Addr) (m b w : D) : Bool := manyB m && (psB' b && msB C (numD m) w (lenD b))
def kPs (d : D) : Prop := knD d ∧ ∀ xs, d = .lst xs → ∀ x ∈ xs, kP x
def kMs (C : Addr) (d : D) : Prop := knD d ∧ ∀ xs, d = .lst xs → ∀ x ∈ xs, kM C x
/-- what Thing(many, pushes, modes) does: CM, CB, CO the classes Mode, BadThing, TooMany -/
abbrev g_Thing_init (CM CB CO : Addr) : DI := fun ds Q E => ∃ m b w, ds = [m, b, w] ∧ isWh m ≠ none ∧ kPs b ∧ kMs CM w ∧
  if thB CM m b w = true then (if 6 < lenD b ∨ 40 < lenD w then E (.ins CO []) else Q (thF m b w)) else E (.ins CB [])
abbrev N_Thing_init : List Str := ["self", "many", "pushes", "modes", "push", "mode"]
def tb_Thing_init (K : PySem.W.Frag) (C_BadThing C_Mode C_TooMany : Addr) : DS :=
  (dSq (dIf (dOr (dNot (dTest (dCall 1 [] g_is_whole (dCons (dVar 1) dNil)))) (dNot (dTest (dChain kLe kLe (dC (.int 1)) (dVarP 1) (dC (.int 3)))))) (dRaise C_BadThing) dNext) (dSq (dIf (dOr (dNot (dTest (dCB (kIsi K) (dCons (dVarP 2) (dCons (dC (.ty "list")) dNil))))) (dNot (dTest (dCB kAll (dCons (dFz (dLcN (dSeq (dVar 2)) (gNm 4) dYes (dCall 1 [] g_is_push (dCons (dVar 4) dNil)) [4])) dNil))))) (dRaise C_BadThing) dNext) (dSq (dIf (dOr (dNot (dTest (dCB (kIsi K) (dCons (dVarP 3) (dCons (dC (.ty "list")) dNil))))) (dTest (dOp kEqZ (dVarP 3) (dLst dNil)))) (dRaise C_BadThing) dNext) (dSq (dIf (dNot (dTest (dCB kAll (dCons (dFz (dLcN (dSeq (dVar 3)) (gNm 5) dYes (dCall 3 [] (g_is_mode C_Mode) (dCons (dVar 5) (dCons (dVar 1) (dCons (dCB kLen (dCons (dVarP 2) dNil)) dNil)))) [5])) dNil)))) (dRaise C_BadThing) dNext) (dSq (dIf (dOr (dTest (dOp kGt (dCB kLen (dCons (dVarP 2) dNil)) (dC (.int 6)))) (dTest (dOp kGt (dCB kLen (dCons (dVarP 3) dNil)) (dC (.int 40))))) (dRaise C_TooMany) dNext) (dSq (dPutF K 0 "many" (dVar 1)) (dSq (dPutF K 0 "bounds" (dCB kList (dCons (dVarP 2) dNil))) (dPutF K 0 "ways" (dCB kList (dCons (dVarP 3) dNil))))))))))
theorem rd_Thing_init {K : PySem.W.Frag} {CM CT CB CO : Addr} (hK : ThK K CM CT) (x : Addr) (ds : List D) (Q : List (Str × D) → Prop) (E : EQ) (_ : ds.length + 1 = 4) (h : g_Thing_init CM CB CO ds Q E) : tb_Thing_init K CB CM CO (dEI (CT, x) Q E) (startI (CT, x) N_Thing_init ds) := by
  obtain ⟨m, b, w, rfl, hm, hb, hw, q⟩ := h
  have k1 := hK.f_Thing_many
  have k2 := hK.f_Thing_bounds
  have k3 := hK.f_Thing_ways
  unfold tb_Thing_init dEI startI
  walk_at "go"
  refine ⟨m, _, rfl, isWh_some hm, ?_⟩
  -- the number
  have bad : ∀ (c : Bool), manyB m = false → E (.ins CB []) := fun _ h => by
    unfold thB at q
    rw [h] at q
    exact q
  cases m with
  | int n =>
    walk_at "go"
    by_cases h1 : 1 ≤ n
    case neg =>
      rw [decide_eq_false h1]
      walk_at "go"
      exact bad true (by unfold manyB; dsimp only; rw [decide_eq_false h1]; rfl)
    rw [decide_eq_true h1]
    walk_at "go"
    by_cases h3 : n ≤ 3
    case neg =>
      rw [decide_eq_false h3]
      walk_at "go"
      exact bad true (by unfold manyB; dsimp only; rw [decide_eq_false h3, Bool.and_false])
    rw [decide_eq_true h3]
    have hmb : manyB (.int n) = true := by unfold manyB; dsimp only; rw [decide_eq_true h1, decide_eq_true h3]; rfl
    unfold thB at q
    rw [hmb, Bool.true_and] at q
    walk_at "go"
    -- the pushes
    cases b with
    | lst ps =>
      walk_at "go"
      refine compL_map (fun d => .bl (psB d)) _ _ (fun e he K1 K0 hK => ?_) ?_
      · walk_at "go"
        exact ⟨e, rfl, hb.2 ps rfl e he, hK⟩
      rw [List.nil_append]
      walk_at "rd"
      rw [all_map_bl]
      walk_at "rd"
      rw [all_map_id]
      have e1 : psB' (.lst ps) = ps.all psB := rfl
      rw [e1] at q
      cases hp : ps.all psB
      · rw [hp] at q
        walk_at "go"
        exact q
      rw [hp, Bool.true_and] at q
      walk_at "go"
      -- the modes
      cases w with
      | lst ms =>
        cases ms with
        | nil =>
          walk_at "go"
          refine ⟨plain_of rfl, plain_of rfl, ?_⟩
          walk_at "go"
          exact q
        | cons x xs =>
          walk_at "go"
          refine compL_map (fun d => .bl (mdB CM d n ps.length)) _ _ (fun e he K1 K0 hK => ?_) ?_
          · walk_at "go"
            exact ⟨e, n, _, rfl, hw.2 _ rfl e he, hK⟩
          rw [List.nil_append]
          walk_at "rd"
          rw [show (D.bl (mdB CM x n ps.length) :: xs.map fun d => D.bl (mdB CM d n ps.length)) = (x :: xs).map (fun d => D.bl (mdB CM d n ps.length)) from rfl, all_map_bl (fun d => mdB CM d n ps.length)]
          walk_at "rd"
          rw [show (mdB CM x n ps.length :: xs.map fun d => mdB CM d n ps.length) = (x :: xs).map (fun d => mdB CM d n ps.length) from rfl, all_map_id]
          have e2 : msB CM (numD (.int n)) (.lst (x :: xs)) (lenD (.lst ps)) = (x :: xs).all fun m => mdB CM m n ps.length := rfl
          rw [e2] at q
          cases ha : (x :: xs).all fun m => mdB CM m n ps.length
          · rw [ha] at q
            walk_at "go"
            exact q
          rw [ha, if_pos rfl] at q
          have l1 : lenD (.lst ps) = ps.length := rfl
          have l2 : lenD (.lst (x :: xs)) = xs.length + 1 := rfl
          rw [l1, l2] at q
          walk_at "go"
          by_cases c1 : 6 < ps.length
          · rw [decide_eq_true (show (6 : Int) < (ps.length : Int) by omega)]
            rw [if_pos (.inl c1)] at q
            walk_at "go"
            exact q
          rw [decide_eq_false (show ¬ (6 : Int) < (ps.length : Int) by omega)]
          walk_at "go"
          by_cases c2 : 40 < xs.length + 1
          · rw [decide_eq_true (show (40 : Int) < ((xs.length + 1 : Nat) : Int) by omega)]
            rw [if_pos (.inr c2)] at q
            walk_at "go"
            exact q
          rw [decide_eq_false (show ¬ (40 : Int) < ((xs.length + 1 : Nat) : Int) by omega)]
          rw [if_neg (by omega)] at q
          walk_at "go"
          refine ⟨Nat.le_of_ble_eq_true rfl, ?_⟩
          walk_at "go"
          refine ⟨Nat.le_of_ble_eq_true rfl, ?_⟩
          walk_at "go"
          exact q
      | _ => first
        | exact absurd rfl hw.1.1
        | exact absurd rfl (hw.1.2 _)
        | (walk_at "go"; exact q)
    | _ => first
      | exact absurd rfl hb.1.1
      | exact absurd rfl (hb.1.2 _)
      | (walk_at "go"; exact q)
  | _ => first
    | exact absurd rfl hm
    | (walk_at "go"; exact q)
abbrev g_Thing_pushes (CT : Addr) : DF := fun ds Q _ => ∃ (m w : D) (ps : List D), ds = [.ins CT (thF m (.lst ps) w)] ∧ Q (.lst ps)
abbrev N_Thing_pushes : List Str := ["self"]
def tb_Thing_pushes (K : PySem.W.Frag) : DS :=
  (dRet (dCB kList (dCons (dFld K "bounds" (dVar 0)) dNil)))
theorem rd_Thing_pushes {K : PySem.W.Frag} {CM CT : Addr} (hK : ThK K CM CT) (ds : List D) (Q E : EQ) (_ : ds.length = 1) (h : g_Thing_pushes CT ds Q E) : tb_Thing_pushes K (dE Q E) (startD N_Thing_pushes ds) := by
  obtain ⟨m, w, ps, rfl, q⟩ := h
  have k2 := hK.f_Thing_bounds
  unfold tb_Thing_pushes dE thF
  walk_at "go"
  exact q
abbrev g_Thing_modes (CT : Addr) : DF := fun ds Q _ => ∃ (m b : D) (ms : List D), ds = [.ins CT (thF m b (.lst ms))] ∧ Q (.lst ms)
abbrev N_Thing_modes : List Str := ["self"]
def tb_Thing_modes (K : PySem.W.Frag) : DS :=
  (dRet (dCB kList (dCons (dFld K "ways" (dVar 0)) dNil)))
theorem rd_Thing_modes {K : PySem.W.Frag} {CM CT : Addr} (hK : ThK K CM CT) (ds : List D) (Q E : EQ) (_ : ds.length = 1) (h : g_Thing_modes CT ds Q E) : tb_Thing_modes K (dE Q E) (startD N_Thing_modes ds) := by
  obtain ⟨m, b, ms, rfl, q⟩ := h
  have k2 := hK.f_Thing_ways
  unfold tb_Thing_modes dE thF
  walk_at "go"
  exact q
end Dl

/-! The D-layer, part 37: reach. -/
namespace Dl
open PySem PySem.Spec
open PyProof.Rows L2
local macro_rules | `(tactic| walk_at "sd") => `(tactic| first | with_reducible assumption | omega | with_reducible rfl | exact (rfl : (_ : Bool) = true) | decide | exact few_of (by decide) | exact divOk_small (by decide) (by decide +kernel) | exact mulOk_r (by omega) (by omega) | exact mulOk_l (by omega) (by omega) | ((with_reducible apply mul_of); (walk_at "bx"); (walk_at "bx"); first | omega | decide) | exact few_of (by simp only [List.length_append, List.length_map, List.length_cons, List.length_nil, tab_len, List.length_replicate]; omega))
/-- lists of so many lists of so many ints -/
def lstL (n w : Nat) (R : Mat) : List D := (List.range n).map fun k => .lst (tabD w (R k))
theorem lstL_len {n w : Nat} {R : Mat} : (lstL n w R).length = n := rng_len
theorem lstL_get {n w k : Nat} {R : Mat} (h : k < n) : (lstL n w R)[k]? = some (.lst (tabD w (R k))) := rng_get h
def isSeqD (d : D) (xs : List D) : Prop := d = .tup xs ∨ d = .lst xs
theorem tab_app (m n : Nat) (F G : Nat → Int) : tabD m F ++ tabD n G = tabD (m + n) fun j => if j < m then F j else G (j - m) := by
  unfold tabD
  refine List.ext_getElem? fun i => ?_
  by_cases h1 : i < m
  · rw [List.getElem?_append_left (by rw [rng_len]; exact h1), rng_get h1, rng_get (by omega)]
    dsimp only
    rw [if_pos h1]
  · rw [List.getElem?_append_right (by rw [rng_len]; omega), rng_len]
    by_cases h2 : i < m + n
    · rw [rng_get (show i - m < n by omega), rng_get h2]
      dsimp only
      rw [if_neg h1]
    · rw [List.getElem?_eq_none (by rw [rng_len]; omega), List.getElem?_eq_none (by rw [rng_len]; omega)]
end Dl

local macro_rules | `(tactic| walk_at "sd") => `(tactic| first | with_reducible assumption | omega | with_reducible rfl | exact (rfl : (_ : Bool) = true) | exact (rfl : @Eq (Option D) _ none) | decide | exact few_of (by decide) | exact divOk_small (by decide) (by decide +kernel) | exact mulOk_r (by omega) (by omega) | exact mulOk_l (by omega) (by omega) | ((with_reducible apply mul_of); (walk_at "bx"); (walk_at "bx"); first | omega | decide) | exact few_of (by simp only [List.length_append, List.length_map, List.length_cons, List.length_nil, tab_len, List.length_replicate]; omega))
/-! The D-layer, part 38: standing, reach. -/
namespace Dl
open PySem PySem.Spec
open PyProof.Rows L2
def pD (p : Int × Int) : D := .tup [.int p.1, .int p.2]
theorem take_tab {m k : Nat} {F : Nat → Int} (h : k ≤ m) : (tabD m F).take k = tabD k F := by
  unfold tabD
  rw [← List.map_take, List.take_range, Nat.min_eq_left h]
theorem drop_tab {m k : Nat} {F : Nat → Int} : (tabD m F).drop k = tabD (m - k) fun j => F (j + k) := by
  refine List.ext_getElem? fun i => ?_
  rw [List.getElem?_drop]
  by_cases h : k + i < m
  · rw [tab_get h, tab_get (show i < m - k by omega), Nat.add_comm]
  · rw [List.getElem?_eq_none (by rw [tab_len]; omega), List.getElem?_eq_none (by rw [tab_len]; omega)]
/-- a thing's tree, told by its parts -/
def thI (CT : Addr) (n : Nat) (ps : List (Int × Int)) (ms : List D) : D := .ins CT (thF (.int n) (.lst (ps.map pD)) (.lst ms))
/-- a mode's tree -/
structure Md where
  rows : List (Nat → Int)
  nexts : Mat
  steer : Nat → Int
  push : Mat
  add : Nat → Int
  div : Int
def mdI (CM : Addr) (n p : Nat) (m : Md) : D := .ins CM (mdF (.lst (m.rows.map (rowW (n + 1)))) (.lst (lstL n n m.nexts)) (.lst (tabD n m.steer)) (.lst (lstL n p m.push)) (.lst (tabD n m.add)) (.int m.div))
structure okMd (b : Nat) (m : Md) : Prop where
  nexts : ∀ i j, bnd b (m.nexts i j)
  push : ∀ i j, bnd b (m.push i j)
  add : ∀ i, bnd b (m.add i)
  div : bnd b m.div
end Dl

/-! The D-layer, part 39: rows held at points, whatever the bottom is. -/
namespace Dl
open PySem PySem.Spec
open PyProof.Rows L2
def frX (p : Int × Int) : Int × Int := (p.1.fdiv (shr p.1 p.2), p.2.fdiv (shr p.1 p.2))
end Dl

/-! The D-layer, part 40: a dict of one's own, its keys tuples of ints. -/
namespace Dl
open PySem PySem.Spec
open PyProof.Rows L2
/-! ### pairs -/
/-! ### the slot -/
section
variable {X : Cx} {W : WX} {e a b c value : Expr} {t ta te : TD} {pos pos' : Pos}
/-! ### list(x.values()) -/
end
end Dl

/-! The D-layer, part 41: rows by lists: what divides all, lowest form, the tidied room (mathematics). -/
namespace Dl
open PySem PySem.Spec
open PyProof.Rows L2
abbrev Rw := List Int × Int
def fL (l : List Int) : Nat → Int := fun j => l.getD j 0
def gcdI (l : List Int) : Int := gcdL (fL l) l.length
def lowI (l : List Int) : List Int := if gcdI l = 0 then l else l.map (·.fdiv (gcdI l))
theorem gcdI_nn (l : List Int) : 0 ≤ gcdI l := gcdL_nn _ _
/-! ### a row's lowest form -/
/-- whether the first row lets less by -/
def narI (r o : Rw) : Bool := decide (r.2 * gcdI o.1 < o.2 * gcdI r.1)
/-! ### the tidied room -/
abbrev TS := List (List Int × Rw) × List Rw
def valR : List (List Int × Rw) → List Int → Option Rw
  | [], _ => none
  | p :: r, k => if p.1 = k then some p.2 else valR r k
def putR (kvs : List (List Int × Rw)) (k : List Int) (y : Rw) : List (List Int × Rw) :=
  if (valR kvs k).isSome = true then kvs.map (fun p => if p.1 = k then (p.1, y) else p) else kvs ++ [(k, y)]
def tstep (st : TS) (r : Rw) : TS :=
  if gcdI r.1 = 0 then (if r.2 < 0 then (st.1, [(r.1, -1)]) else st)
  else match valR st.1 (lowI r.1) with
    | none => (st.1 ++ [(lowI r.1, r)], st.2)
    | some o => if narI r o = true then (putR st.1 (lowI r.1) r, st.2) else st
theorem valR_some {kvs : List (List Int × Rw)} {k : List Int} {o : Rw} (h : valR kvs k = some o) : (k, o) ∈ kvs := by
  induction kvs with
  | nil => cases h
  | cons p r ih =>
    unfold valR at h
    by_cases e : p.1 = k
    · rw [if_pos e] at h
      cases h
      subst e
      exact List.mem_cons_self
    · rw [if_neg e] at h
      exact List.mem_cons_of_mem _ (ih h)
theorem valR_none {kvs : List (List Int × Rw)} {k : List Int} (h : valR kvs k = none) : ∀ p ∈ kvs, p.1 ≠ k := by
  induction kvs with
  | nil => intro p hp; cases hp
  | cons q r ih =>
    unfold valR at h
    by_cases e : q.1 = k
    · rw [if_pos e] at h; cases h
    · rw [if_neg e] at h
      intro p hp
      rcases List.mem_cons.mp hp with rfl | hp
      · exact e
      · exact ih h p hp
theorem valR_of {kvs : List (List Int × Rw)} {k : List Int} {o : Rw} (hn : (kvs.map (·.1)).Nodup) (h : (k, o) ∈ kvs) : valR kvs k = some o := by
  induction kvs with
  | nil => cases h
  | cons p r ih =>
    rw [List.map_cons, List.nodup_cons] at hn
    unfold valR
    rcases List.mem_cons.mp h with e | h
    · subst e; rw [if_pos rfl]
    · rw [if_neg (fun e => hn.1 (List.mem_map.mpr ⟨_, h, e.symm⟩))]
      exact ih hn.2 h
theorem putR_keys {kvs : List (List Int × Rw)} {k : List Int} {o y : Rw} (h : valR kvs k = some o) : (putR kvs k y).map (·.1) = kvs.map (·.1) := by
  unfold putR
  rw [h, if_pos (show (some o).isSome = true from rfl), List.map_map]
  exact List.map_congr_left fun p _ => by
    show (if p.1 = k then (p.1, y) else p).1 = p.1
    split <;> rfl
/-- what the tidied room keeps -/
structure TOk (st : TS) (rl : List Rw) : Prop where
  nd : (st.1.map (·.1)).Nodup
  of : ∀ p ∈ st.1, p.1 = lowI p.2.1 ∧ gcdI p.2.1 ≠ 0 ∧ p.2 ∈ rl
  sh : st.2 = [] ∨ ∃ r ∈ rl, gcdI r.1 = 0 ∧ r.2 < 0 ∧ st.2 = [(r.1, -1)]
  has : ∀ r ∈ rl, gcdI r.1 ≠ 0 → ∃ o, (lowI r.1, o) ∈ st.1 ∧ o.2 * gcdI r.1 ≤ r.2 * gcdI o.1
  shut : ∀ r ∈ rl, gcdI r.1 = 0 → r.2 < 0 → st.2 ≠ []
theorem narI_t {r o : Rw} (h : narI r o = true) : r.2 * gcdI o.1 < o.2 * gcdI r.1 := of_decide_eq_true h
theorem narI_f {r o : Rw} (h : narI r o = false) : o.2 * gcdI r.1 ≤ r.2 * gcdI o.1 := by have := of_decide_eq_false h; omega
theorem TOk.step {st : TS} {rl : List Rw} (t : TOk st rl) (r : Rw) : TOk (tstep st r) (rl ++ [r]) := by
  have inl : ∀ {x : Rw}, x ∈ rl → x ∈ rl ++ [r] := fun h => List.mem_append_left _ h
  have inr : r ∈ rl ++ [r] := List.mem_append_right _ List.mem_cons_self
  have cs : ∀ {x : Rw}, x ∈ rl ++ [r] → x ∈ rl ∨ x = r := fun {x} h => by
    rcases List.mem_append.mp h with h | h
    · exact .inl h
    · exact .inr (List.mem_singleton.mp h)
  have sh1 : st.2 = [] ∨ ∃ x ∈ rl ++ [r], gcdI x.1 = 0 ∧ x.2 < 0 ∧ st.2 = [(x.1, -1)] := t.sh.elim .inl fun ⟨x, h, q⟩ => .inr ⟨x, inl h, q⟩
  unfold tstep
  by_cases h0 : gcdI r.1 = 0
  · rw [if_pos h0]
    by_cases hb : r.2 < 0
    · rw [if_pos hb]
      refine ⟨t.nd, fun p hp => ?_, .inr ⟨r, inr, h0, hb, rfl⟩, fun x hx hg => ?_, fun _ _ _ _ z => nomatch (show [(r.1, -1)] = ([] : List Rw) from z)⟩
      · obtain ⟨a, b, c⟩ := t.of p hp; exact ⟨a, b, inl c⟩
      · rcases cs hx with hx | rfl
        · exact t.has x hx hg
        · exact absurd h0 hg
    · rw [if_neg hb]
      refine ⟨t.nd, fun p hp => ?_, sh1, fun x hx hg => ?_, fun x hx hg hz => ?_⟩
      · obtain ⟨a, b, c⟩ := t.of p hp; exact ⟨a, b, inl c⟩
      · rcases cs hx with hx | rfl
        · exact t.has x hx hg
        · exact absurd h0 hg
      · rcases cs hx with hx | rfl
        · exact t.shut x hx hg hz
        · exact absurd hz hb
  · rw [if_neg h0]
    have shut1 : ∀ x ∈ rl ++ [r], gcdI x.1 = 0 → x.2 < 0 → st.2 ≠ [] := fun x hx hg hz => by
      rcases cs hx with hx | rfl
      · exact t.shut x hx hg hz
      · exact absurd hg h0
    cases hv : valR st.1 (lowI r.1) with
    | none =>
      dsimp only
      refine ⟨?_, fun p hp => ?_, sh1, fun x hx hg => ?_, shut1⟩
      · rw [List.map_append, List.nodup_append]
        refine ⟨t.nd, List.nodup_cons.mpr ⟨List.not_mem_nil, List.nodup_nil⟩, fun a ha b hb => ?_⟩
        obtain ⟨p, hp, rfl⟩ := List.mem_map.mp ha
        rw [List.mem_singleton.mp hb]
        exact valR_none hv p hp
      · rcases List.mem_append.mp hp with hp | hp
        · obtain ⟨a, b, c⟩ := t.of p hp; exact ⟨a, b, inl c⟩
        · rw [List.mem_singleton.mp hp]
          exact ⟨rfl, h0, inr⟩
      · rcases cs hx with hx | rfl
        · obtain ⟨o, a, b⟩ := t.has x hx hg
          exact ⟨o, List.mem_append_left _ a, b⟩
        · exact ⟨x, List.mem_append_right _ List.mem_cons_self, Int.le_refl _⟩
    | some o =>
      dsimp only
      have ho := valR_some hv
      obtain ⟨o1, o2, o3⟩ := t.of _ ho
      have o2 : gcdI o.1 ≠ 0 := o2
      cases hn : narI r o with
      | false =>
        rw [if_neg Bool.false_ne_true]
        refine ⟨t.nd, fun p hp => ?_, sh1, fun x hx hg => ?_, shut1⟩
        · obtain ⟨a, b, c⟩ := t.of p hp; exact ⟨a, b, inl c⟩
        · rcases cs hx with hx | rfl
          · exact t.has x hx hg
          · exact ⟨o, ho, narI_f hn⟩
      | true =>
        rw [if_pos rfl]
        refine ⟨?_, fun p hp => ?_, sh1, fun x hx hg => ?_, shut1⟩
        · show ((putR st.1 (lowI r.1) r).map (·.1)).Nodup
          rw [putR_keys hv]; exact t.nd
        · have hp : p ∈ putR st.1 (lowI r.1) r := hp
          unfold putR at hp
          rw [hv, if_pos (show (some o).isSome = true from rfl)] at hp
          obtain ⟨q, hq, rfl⟩ := List.mem_map.mp hp
          by_cases e : q.1 = lowI r.1
          · rw [if_pos e]; exact ⟨e, h0, inr⟩
          · rw [if_neg e]; obtain ⟨a, b, c⟩ := t.of q hq; exact ⟨a, b, inl c⟩
        · have hr : (lowI r.1, r) ∈ putR st.1 (lowI r.1) r := by
            unfold putR
            rw [hv, if_pos (show (some o).isSome = true from rfl)]
            exact List.mem_map.mpr ⟨_, ho, by rw [if_pos rfl]⟩
          rcases cs hx with hx | rfl
          · obtain ⟨o', a, b⟩ := t.has x hx hg
            by_cases e : lowI x.1 = lowI r.1
            · refine ⟨r, e ▸ hr, ?_⟩
              have e2 : o' = o := by
                have := valR_of t.nd a
                rw [e, hv] at this
                cases this; rfl
              subst e2
              have hn := narI_t hn
              have g0 : 0 < gcdI o'.1 := by have := gcdI_nn o'.1; omega
              have g1 : 0 < gcdI x.1 := by have := gcdI_nn x.1; omega
              have g2 : 0 < gcdI r.1 := by have := gcdI_nn r.1; omega
              have s1 := Int.mul_le_mul_of_nonneg_left (Int.le_of_lt hn) (Int.le_of_lt g1)
              have s2 := Int.mul_le_mul_of_nonneg_left b (Int.le_of_lt g2)
              refine Int.le_of_mul_le_mul_left (a := gcdI o'.1) ?_ g0
              have e1 : gcdI o'.1 * (r.2 * gcdI x.1) = gcdI x.1 * (r.2 * gcdI o'.1) := by grind
              have e2 : gcdI x.1 * (o'.2 * gcdI r.1) = gcdI r.1 * (o'.2 * gcdI x.1) := by grind
              have e3 : gcdI r.1 * (x.2 * gcdI o'.1) = gcdI o'.1 * (x.2 * gcdI r.1) := by grind
              rw [e1, ← e3]
              exact Int.le_trans s1 (by rw [e2]; exact s2)
            · refine ⟨o', ?_, b⟩
              show _ ∈ putR st.1 (lowI r.1) r
              unfold putR
              rw [hv, if_pos (show (some o).isSome = true from rfl)]
              exact List.mem_map.mpr ⟨_, a, by rw [if_neg e]⟩
          · exact ⟨x, hr, Int.le_refl _⟩
/-! ### tidied again -/
/-! ### points -/
end Dl

/-! The D-layer, part 42: direction, narrower, tidied. -/
namespace Dl
open PySem PySem.Spec
open PyProof.Rows L2
end Dl

/-! The D-layer, part 43: what the laws draw: numbers, boxes, rows of boxes. -/
namespace Dl
open PySem PySem.Spec
open PyProof.Rows L2
/-! ### of use everywhere -/
theorem compL_fun {α : Type} {g : DG} {tt : TDb} {te : TD} {ρ : Env'} {Q : List D → Prop} (f F : α → D) (xs : List α)
    (h : ∀ x ∈ xs, ∀ (K1 : D → Prop) (K0 : Prop), K1 (F x) → g (f x) ρ fun ρ2 => tt ρ2 (fun b => ifP b (te ρ2 K1 (fun _ => False)) K0) fun _ => False)
    (q : Q (xs.map F)) : compL g tt te ρ Q (xs.map f) [] := by
  have go : ∀ (xs : List α) (acc : List D), (∀ x ∈ xs, ∀ (K1 : D → Prop) (K0 : Prop), K1 (F x) → g (f x) ρ fun ρ2 => tt ρ2 (fun b => ifP b (te ρ2 K1 (fun _ => False)) K0) fun _ => False) →
      Q (acc ++ xs.map F) → compR g tt te ρ Q (xs.map f) acc := by
    intro xs
    induction xs with
    | nil => intro acc _ q; rw [List.map_nil, List.append_nil] at q; exact q
    | cons x xs ih =>
      intro acc h q
      refine h x List.mem_cons_self _ _ (ih _ (fun e he => h e (List.mem_cons_of_mem _ he)) ?_)
      rw [List.append_assoc]
      exact q
  exact ⟨go xs [] h q⟩
/-! ### boxes -/
end Dl

/-! The D-layer, more: texts: split, partition, join, startswith, int of a text, a sign in a text, the signs of a text. -/
namespace Dl
open PySem PySem.Spec
open PyProof.Rows L2
section
variable {X : Cx} {W : WX} {o e tg : Expr} {to te t : TD} {apos pos : Pos}
theorem reps_strs {K : PySem.W.Frag} {F : Fz} : ∀ ys : List Str, Reps K F (ys.map D.str) (ys.map V.str)
  | [] => .nil
  | y :: ys => .cons (.str y) (reps_strs ys)
/-- a text's method, of a text -/
def dM1 (k : Str → Str → EQ → Prop) (to te : TD) : TD := fun ρ Q E => to ρ (asS fun a => te ρ (asS fun b => k a b Q) E) E
def kSplit : Str → Str → EQ → Prop := fun a b Q => (b.length == 0) = false ∧ a.length + 2 ≤ 16777216 ∧ few ((Txt.split a b).map D.str) ∧ Q (.lst ((Txt.split a b).map .str))
def kPartn : Str → Str → EQ → Prop := fun a b Q => (b.length == 0) = false ∧ a.length ≤ 16777216 ∧ Q (.tup [.str (Txt.partition a b).1, .str (Txt.partition a b).2.1, .str (Txt.partition a b).2.2])
def kStarts : Str → Str → EQ → Prop := fun a b Q => Q (.bl (Txt.startswith a b))
abbrev dSplit := dM1 kSplit
abbrev dPartn := dM1 kPartn
abbrev dStarts := dM1 kStarts
theorem re_m1 {name : Str} {r : V → List V → Hp → VK → Prop} {k : Str → Str → EQ → Prop} (ho : RP X W o to) (he : RP X W e te)
    (hp : ∀ {t1 t2 : TE}, PE X o t1 → PE X e t2 → PE X (.Call (.Attribute o name apos) [e] [] pos) (tM1 r t1 t2))
    (hr : ∀ (a b : Str) (F : Fz) (H : Hp) (Qd : EQ) (Q : VK), Same F H → (∀ d v F' H', Go F H F' H' → Rep X.K F' d v → Qd d → Q v H') → k a b Qd → r (.str a) [.str b] H Q) :
    RE X W (.Call (.Attribute o name apos) [e] [] pos) (dM1 k to te) := by
  obtain ⟨t1, a1, a2⟩ := ho.run
  obtain ⟨t2, b1, b2⟩ := he.run
  refine ⟨_, hp a1 b1, fun ρ σ F H Qd E Q rl xp kk q => a2 ρ σ F H _ E _ rl xp (fun x vx F1 H1 g1 p1 q1 => ?_) q⟩
  obtain ⟨a, rfl, q2⟩ := asS_inv q1
  refine ⟨⟨a, p1.str⟩, b2 ρ σ F1 H1 _ E _ (rl.go g1) (xp.go g1) (fun y vy F2 H2 g2 p2 q3 => ?_) q2⟩
  obtain ⟨b, rfl, q4⟩ := asS_inv q3
  rw [p1.str, p2.str]
  exact hr a b F2 H2 Qd Q g2.fh (fun d v F' H' g r q => kk d v F' H' ((g1.trans g2).trans g) r q) q4
theorem re_split (ho : RP X W o to) (he : RP X W e te) (hs : starEach [e] X.env = [(false, eval e X.env)] := by rfl) (hbase : attributeBase o "split" X.env (eval o X.env) = eval o X.env := by rfl) (hline : (apos.endLine == pos.line) = true := by rfl) :
    RE X W (.Call (.Attribute o "split" apos) [e] [] pos) (dSplit to te) :=
  re_m1 ho he (fun h1 h2 => pe_split h1 h2 hs hbase hline) fun a b F H Qd Q e kk q => by
    refine ⟨a, b, rfl, rfl, q.1, by rw [sizeLine_eq]; exact q.2.1, fun p np => ?_⟩
    obtain ⟨g, r⟩ := Go.lst e (reps_strs _) (few_line (reps_strs (K := X.K) (F := F) _) q.2.2.1) np
    exact kk _ _ _ _ g r q.2.2.2
theorem re_partition (ho : RP X W o to) (he : RP X W e te) (hs : starEach [e] X.env = [(false, eval e X.env)] := by rfl) (hbase : attributeBase o "partition" X.env (eval o X.env) = eval o X.env := by rfl) (hline : (apos.endLine == pos.line) = true := by rfl) :
    RE X W (.Call (.Attribute o "partition" apos) [e] [] pos) (dPartn to te) :=
  re_m1 ho he (fun h1 h2 => pe_partition h1 h2 hs hbase hline) fun a b F H Qd Q e kk q => by
    refine ⟨a, b, rfl, rfl, q.1, by rw [sizeLine_eq]; exact q.2.1, fun p np => ?_⟩
    obtain ⟨g, r⟩ := Go.tup e (reps_strs [(Txt.partition a b).1, (Txt.partition a b).2.1, (Txt.partition a b).2.2]) (Nat.le_of_ble_eq_true rfl) np
    exact kk _ _ _ _ g r q.2.2
theorem re_starts (ho : RP X W o to) (he : RP X W e te) (hs : starEach [e] X.env = [(false, eval e X.env)] := by rfl) (hbase : attributeBase o "startswith" X.env (eval o X.env) = eval o X.env := by rfl) (hline : (apos.endLine == pos.line) = true := by rfl) :
    RE X W (.Call (.Attribute o "startswith" apos) [e] [] pos) (dStarts to te) :=
  re_m1 ho he (fun h1 h2 => pe_m1 PySem.F.slot_str_startswith PySem.F.type_str_startswith mt_startswith h1 h2 hs hbase hline) fun a b F H Qd Q e kk q =>
    ⟨a, b, rfl, rfl, kk _ _ _ _ (.refl e) (.bl _) q⟩
/-! ### join -/
theorem reps_strs_inv {K : PySem.W.Frag} {F : Fz} : ∀ {ys : List Str} {vs : List V}, Reps K F (ys.map D.str) vs → vs = ys.map V.str
  | [], _, r => by cases r; rfl
  | y :: ys, _, r => by
    cases r with
    | cons r rs => cases r; rw [reps_strs_inv rs]; rfl
def kJoin (a : Str) (Q : EQ) : EQ := onLs fun ds => ∃ ys, ds = ys.map .str ∧ (ys.map (·.length)).sum + ys.length * a.length ≤ 16777216 ∧ Q (.str (Txt.join a ys))
def dJoin (to te : TD) : TD := fun ρ Q E => to ρ (asS fun a => te ρ (kJoin a Q) E) E
theorem re_join (ho : RP X W o to) (he : RE X W e te) (hs : starEach [e] X.env = [(false, eval e X.env)] := by rfl) (hbase : attributeBase o "join" X.env (eval o X.env) = eval o X.env := by rfl) (hline : (apos.endLine == pos.line) = true := by rfl) :
    RE X W (.Call (.Attribute o "join" apos) [e] [] pos) (dJoin to te) := by
  obtain ⟨t1, a1, a2⟩ := ho.run
  obtain ⟨t2, b1, b2⟩ := he.run
  refine ⟨_, pe_join a1 b1 hs hbase hline, fun ρ σ F H Qd E Q rl xp kk q => a2 ρ σ F H _ E _ rl xp (fun x vx F1 H1 g1 p1 q1 => ?_) q⟩
  obtain ⟨a, rfl, q2⟩ := asS_inv q1
  refine ⟨⟨a, p1.str⟩, b2 ρ σ F1 H1 _ E _ (rl.go g1) (xp.go g1) (fun y vy F2 H2 g2 p2 q3 => ?_) q2⟩
  obtain ⟨ds, hd, ys, rfl, z, q4⟩ := onLs_inv q3
  rw [p1.str]
  have key : ∃ p, vy = .ref p ∧ SqL X.K H2 p (ys.map V.str) := by
    rcases hd with rfl | rfl | rfl
    · cases p2 with
      | lst s _ l r => rw [reps_strs_inv r] at s; exact ⟨_, rfl, SqL.of (g2.fh _ _ s)⟩
    · cases p2 with
      | frl s l r => rw [reps_strs_inv r] at s; exact ⟨_, rfl, same_seqL g2.fh (same_seqL F2.kh_same s)⟩
    · cases p2 with
      | mu s _ l r => rw [reps_strs_inv r] at s; exact ⟨_, rfl, SqL.of (g2.fh _ _ s)⟩
  obtain ⟨p, rfl, sq⟩ := key
  exact ⟨a, p, ys, rfl, rfl, .inl sq, z, kk _ _ _ _ (g1.trans g2) (.str _) q4⟩
/-! ### int of a text, a sign in a text -/
def kIntS : KC := k1c fun d Q => match d with
  | .str a => ∃ n, PySem.intText? a = some n ∧ a.length ≤ 640 ∧ Q (.int n)
  | .int i => Q (.int i)
  | .bl k => Q (.int (if k then 1 else 0))
  | _ => False
theorem cd_intS : CallD X (.type "int") kIntS := by
  refine ⟨_, call_int1.or call_int_str, fun ds vs F H Qd Q e ps kk q => ?_⟩
  obtain ⟨d, rfl, q⟩ := k1c_inv q
  obtain ⟨v, rfl, pk⟩ := pks1 ps
  cases d <;> first | exact False.elim q | skip
  · cases pk.bl; exact .inl (.inr ⟨_, rfl, kk _ _ F H (.refl e) (.int _) q⟩)
  · cases pk.int; exact .inl (.inl ⟨_, rfl, kk _ _ F H (.refl e) (.int _) q⟩)
  · cases pk.str
    obtain ⟨n, h1, h2, q⟩ := q
    exact .inr ⟨_, n, rfl, h1, h2, kk _ _ F H (.refl e) (.int _) q⟩
def kNinS : KD := fun x y Q => match x, y with
  | .str a, .str b => ∃ c, a = ⟨#[c]⟩ ∧ Q (.bl (!decide (c ∈ b.cps.toList)))
  | _, _ => False
theorem opd_ninS : OpD X (compareOp .NotIn) kNinS := by
  refine ⟨_, op_notIn_sign, fun x y vx vy F H Qd Q e px py kk q => ?_⟩
  obtain ⟨a, b, rfl, rfl, c, rfl, q'⟩ : ∃ a b, x = .str a ∧ y = .str b ∧ ∃ c, a = ⟨#[c]⟩ ∧ Qd (.bl (!decide (c ∈ b.cps.toList))) := by
    cases x <;> cases y <;> first | exact ⟨_, _, rfl, rfl, q⟩ | exact False.elim q
  exact ⟨c, b, px.str, py.str, kk _ _ F H (.refl e) (.bl _) q'⟩
end
end Dl

/-! Texts of numbers and of fractions: told, and read. -/
namespace Dl
open PySem PySem.Spec
open PyProof.Rows L2 TL
/-- a number's text -/
def numS (z : Int) : Str := Str.ofString (toString z)
theorem numS_nat (n : Nat) : tl (numS (n : Int)) = numL n := tl_num n
theorem numS_neg (n : Nat) : tl (numS (Int.negSucc n)) = 45 :: numL (n + 1) := by
  have e : toString (Int.negSucc n) = "-" ++ toString ((n + 1 : Nat) : Int) := rfl
  unfold numS
  rw [e, tl_ofString, String.toList_append, List.map_append, ← tl_ofString, ← tl_ofString, tl_num]
  rfl
/-- how great a number may be: sixty signs -/
def okN (z : Int) : Prop := z.natAbs < 10 ^ 60
theorem numL_60 {n : Nat} (h : n < 10 ^ 60) : (numL n).length ≤ 60 := numL_len (by decide) h
theorem numL_1 (n : Nat) : 1 ≤ (numL n).length := by
  have := numL_ne n
  cases h : numL n with
  | nil => exact absurd h this
  | cons c cs => rw [List.length_cons]; omega
theorem numS_int {z : Int} (h : okN z) : intText? (numS z) = some z := by
  cases z with
  | ofNat n => exact int_num (Nat.le_trans (numL_60 h) (by decide))
  | negSucc n =>
    have h : n + 1 < 10 ^ 60 := h
    have l := numL_60 h
    have e := intText_neg (x := numS (Int.negSucc n)) (numS_neg n) (numL_digits _) (numL_ne _) (by rw [len_tl, numS_neg, List.length_cons]; omega)
    rw [e, numL_val]
    rfl
theorem numS_len {z : Int} (h : okN z) : (numS z).length ≤ 61 := by
  rw [len_tl]
  cases z with
  | ofNat n => rw [show Int.ofNat n = (n : Int) from rfl, numS_nat]; have := numL_60 (n := n) h; omega
  | negSucc n => rw [numS_neg, List.length_cons]; have := numL_60 (n := n + 1) h; omega
/-- no sign of it but - and the figures -/
theorem numS_signs (z : Int) : ∀ c ∈ tl (numS z), c = 45 ∨ (48 ≤ c ∧ c ≤ 57) := by
  cases z with
  | ofNat n => rw [show Int.ofNat n = (n : Int) from rfl, numS_nat]; exact fun c hc => .inr (numL_digits n c hc)
  | negSucc n =>
    rw [numS_neg]
    intro c hc
    rcases List.mem_cons.mp hc with rfl | hc
    · exact .inl rfl
    · exact .inr (numL_digits _ c hc)
theorem numS_free (z : Int) {s : Nat} (h1 : s ≠ 45) (h2 : s < 48 ∨ 57 < s) : s ∉ tl (numS z) := fun hs => by
  rcases numS_signs z s hs with e | e
  · exact h1 e
  · omega
/-! ### startswith, by the first sign -/
theorem starts1 (x : Str) (s : Nat) : Txt.startswith x ⟨#[s]⟩ = (tl x).head?.any (· == s) := by
  unfold Txt.startswith
  rw [StrLaws.subAt_eq, List.drop_zero, len_tl]
  show (decide (0 + 1 ≤ (tl x).length) && ((tl x).take 1 == [s])) = _
  cases h : tl x with
  | nil => rfl
  | cons c cs =>
    rw [List.length_cons, decide_eq_true (by omega), Bool.true_and]
    show ([c] == [s]) = (c == s)
    rw [Bool.eq_iff_iff]
    simp
theorem cut1 (x : Str) {c : Nat} {cs : List Nat} (h : tl x = c :: cs) : tl (cutS x (some 1) none) = cs := by
  show tl ⟨_⟩ = cs
  rw [tl_mk]
  rw [show x.cps.toList = tl x from rfl, h, len_tl, h, List.length_cons, show (1 : Int) = ((1 : Nat) : Int) from rfl, HT.sIx_nat, HT.sIx_none]
  rw [show min 1 (cs.length + 1) = 1 by omega]
  show cs.take (cs.length + 1 - 1) = cs
  rw [show cs.length + 1 - 1 = cs.length by omega, List.take_length]
theorem head_zero {n : Nat} (h : (numL n).head? = some 48) : n = 0 := by
  induction n using Nat.strongRecOn with
  | _ n ih =>
    by_cases q : n < 10
    · rw [numL_lt q] at h
      injection h with h
      omega
    · rw [numL_step (by omega)] at h
      have ne := numL_ne (n / 10)
      cases e : numL (n / 10) with
      | nil => exact absurd e ne
      | cons c cs =>
        rw [e] at h
        have z := ih (n / 10) (by omega) (by rw [e]; exact h)
        omega
end Dl

/-! Texts of numbers, of rows, of rooms: shown and read (from k91). -/
namespace Dl
open PySem PySem.Spec
open PyProof.Rows L2 TL


def rowS (zs : List Int) : Str := Txt.join (Str.ofString " ") (zs.map numS)
def tupI (zs : List Int) : D := .tup (zs.map .int)
def roomS : List (List Int) → Str
  | [] => Str.ofString "all"
  | r :: rs => Txt.join (Str.ofString ", ") ((r :: rs).map rowS)
abbrev g_read_number : DF := fun ds Q _ => ∃ z : Int, ds = [.str (numS z)] ∧ okN z ∧ Q (.int z)
abbrev N_read_number : List Str := ["word", "figures", "sign"]
def tb_read_number  : DS :=
  (dSq (dSet 1 (dVar 0)) (dSq (dIf (dTest (dStarts (dVarP 0) (dC (.str "-")))) (dSet 1 (dSl (dVarP 0) (dPart (dC (.int 1))) dNoPart)) dNext) (dSq (dIf (dOr (dNot (dTest (dChain kLe kLe (dC (.int 1)) (dCB kLen (dCons (dVarP 1) dNil)) (dC (.int 60))))) (dOr (dTest (dOp kEq (dVarP 0) (dC (.str "-0")))) (dAnd (dTest (dStarts (dVarP 1) (dC (.str "0")))) (dTest (dOp kNe (dVarP 1) (dC (.str "0"))))))) dNever dNext) (dSq (dFor (dSigns (dVarP 1)) (gNm 2) (dIf (dTest (dOp kNinS (dVarP 2) (dC (.str "0123456789")))) dNever dNext)) (dRet (dCB kIntS (dCons (dVarP 0) dNil)))))))
abbrev g_show_numbers : DF := fun ds Q _ => ∃ (zs : List Int) (nd : D), ds = [nd] ∧ isSeqD nd (zs.map .int) ∧ (∀ z ∈ zs, okN z) ∧ zs.length ≤ 20 ∧ Q (.str (rowS zs))
abbrev N_show_numbers : List Str := ["numbers", "number"]
def tb_show_numbers  : DS :=
  (dRet (dJoin (dC (.str " ")) (dFz (dLcN (dSeq (dVar 0)) (gNm 1) dYes (dCB kStrI (dCons (dVarP 1) dNil)) [1]))))
abbrev g_read_numbers : DF := fun ds Q _ => ∃ zs : List Int, ds = [.lst ((zs.map numS).map .str), .int zs.length] ∧ (∀ z ∈ zs, okN z) ∧ Q (.lst (zs.map .int))
abbrev N_read_numbers : List Str := ["words", "many", "word"]
def tb_read_numbers  : DS :=
  (dSq (dIf (dTest (dOp kNe (dCB kLen (dCons (dVarP 0) dNil)) (dVarP 1))) dNever dNext) (dRet (dFz (dLcN (dSeq (dVar 0)) (gNm 2) dYes (dCall 1 [] g_read_number (dCons (dVar 2) dNil)) [2]))))
abbrev g_words_in : DF := fun ds Q _ => ∃ a : Str, ds = [.str a] ∧ a.length ≤ 10000 ∧ Q (.lst ((Txt.split a (Str.ofString " ")).map .str))
abbrev N_words_in : List Str := ["text"]
def tb_words_in (K : PySem.W.Frag) : DS :=
  (dSq (dIf (dNot (dTest (dCB (kIsi K) (dCons (dVarP 0) (dCons (dC (.ty "str")) dNil))))) dNever dNext) (dRet (dSplit (dVarP 0) (dC (.str " ")))))
abbrev g_show_room : DF := fun ds Q _ => ∃ rs : List (List Int), ds = [.lst (rs.map tupI)] ∧ (∀ r ∈ rs, r.length ≤ 10 ∧ ∀ z ∈ r, okN z) ∧ rs.length ≤ 10 ∧ Q (.str (roomS rs))
abbrev N_show_room : List Str := ["room", "row"]
def tb_show_room  : DS :=
  (dSq (dIf (dTest (dOp kEqZ (dVarP 0) (dLst dNil))) (dRet (dC (.str "all"))) dNext) (dRet (dJoin (dC (.str ", ")) (dFz (dLcN (dSeq (dVar 0)) (gNm 1) dYes (dCall 1 [] g_show_numbers (dCons (dVar 1) dNil)) [1])))))
theorem figs_mem {c : Nat} (h : 48 ≤ c ∧ c ≤ 57) : decide (c ∈ (Str.ofString "0123456789").cps.toList) = true := by
  obtain ⟨h1, h2⟩ := h
  have : c = 48 ∨ c = 49 ∨ c = 50 ∨ c = 51 ∨ c = 52 ∨ c = 53 ∨ c = 54 ∨ c = 55 ∨ c = 56 ∨ c = 57 := by omega
  rcases this with rfl | rfl | rfl | rfl | rfl | rfl | rfl | rfl | rfl | rfl <;> decide +kernel
theorem num_loop {d : DE} {a b : Sl} : ∀ (cs : List Nat) (s2 : Sl), (∀ c ∈ cs, 48 ≤ c ∧ c ≤ 57) → (∀ s2, d.nx [a, b, s2]) →
    loopD (gNm 2) (dIf (dTest (dOp kNinS (dVarP 2) (dC (.str "0123456789")))) dNever dNext) d (cs.map fun c => .str ⟨#[c]⟩) [a, b, s2]
  | [], s2, _, h => lp_nil (h s2)
  | c :: cs, s2, hc, h => by
    refine lp_cons ?_
    walk_at "go"
    refine ⟨c, rfl, ?_⟩
    rw [figs_mem (hc c List.mem_cons_self)]
    walk_at "go"
    exact num_loop cs _ (fun x hx => hc x (List.mem_cons_of_mem _ hx)) h
abbrev numT : DS := (dSq (dIf (dOr (dNot (dTest (dChain kLe kLe (dC (.int 1)) (dCB kLen (dCons (dVarP 1) dNil)) (dC (.int 60))))) (dOr (dTest (dOp kEq (dVarP 0) (dC (.str "-0")))) (dAnd (dTest (dStarts (dVarP 1) (dC (.str "0")))) (dTest (dOp kNe (dVarP 1) (dC (.str "0"))))))) dNever dNext) (dSq (dFor (dSigns (dVarP 1)) (gNm 2) (dIf (dTest (dOp kNinS (dVarP 2) (dC (.str "0123456789")))) dNever dNext)) (dRet (dCB kIntS (dCons (dVarP 0) dNil)))))
theorem num_tail {w f : Str} {n : Nat} {z : Int} {Q : EQ} {d : DE} (hd : d.rt = Q) (hf : tl f = numL n) (hn : n < 10 ^ 60) (hw : w ≠ Str.ofString "-0") (hi : intText? w = some z) (hl : w.length ≤ 61) (q : Q (.int z)) :
    numT d [.sh (.str w), .sh (.str f), .no] := by
  have l1 : 1 ≤ f.length := by rw [len_tl, hf]; exact numL_1 n
  have l2 : f.length ≤ 60 := by rw [len_tl, hf]; exact numL_60 hn
  have zero : (Txt.startswith f (Str.ofString "0") = true ∧ f = Str.ofString "0") ∨ Txt.startswith f (Str.ofString "0") = false := by
    have e := starts1 f 48
    rw [show (⟨#[48]⟩ : Str) = Str.ofString "0" from by decide +kernel, hf] at e
    by_cases h0 : n = 0
    · subst h0
      refine .inl ⟨?_, ext_tl ?_⟩
      · rw [e, numL_lt (by decide)]; rfl
      · rw [hf, numL_lt (by decide)]; decide +kernel
    · refine .inr ?_
      rw [e]
      cases h : (numL n).head? with
      | none => rfl
      | some c =>
        refine beq_eq_false_iff_ne.mpr fun z => h0 (head_zero ?_)
        rw [h, z]
  have fin : ∀ d' : DE, d'.rt = Q → (dSq (dFor (dSigns (dVarP 1)) (gNm 2) (dIf (dTest (dOp kNinS (dVarP 2) (dC (.str "0123456789")))) dNever dNext)) (dRet (dCB kIntS (dCons (dVarP 0) dNil)))) d' [.sh (.str w), .sh (.str f), .no] := fun d' e => by
    walk_at "go"
    refine num_loop f.cps.toList _ (fun c hc => ?_) fun s2 => ?_
    · rw [show f.cps.toList = tl f from rfl, hf] at hc
      exact numL_digits n c hc
    walk_at "go"
    refine ⟨z, hi, by omega, ?_⟩
    rw [e]
    exact q
  walk_at "go"
  rw [decide_eq_true (show (1 : Int) ≤ (f.length : Int) by omega)]
  walk_at "go"
  rw [decide_eq_true (show (f.length : Int) ≤ 60 by omega)]
  walk_at "go"
  rw [decide_eq_false hw]
  walk_at "go"
  rcases zero with ⟨e1, e2⟩ | e1
  · rw [e1]
    walk_at "go"
    rw [decide_eq_true e2]
    exact fin _ hd
  · rw [e1]
    exact fin _ hd
theorem rd_read_number (ds : List D) (Q E : EQ) (_ : ds.length = 1) (h : g_read_number ds Q E) : tb_read_number (dE Q E) (startD N_read_number ds) := by
  obtain ⟨z, rfl, hz, q⟩ := h
  have hi := numS_int hz
  have hl := numS_len hz
  unfold tb_read_number dE
  walk_at "go"
  have e := starts1 (numS z) 45
  rw [show (⟨#[45]⟩ : Str) = Str.ofString "-" from by decide +kernel] at e
  cases z with
  | ofNat n =>
    have ht : tl (numS (Int.ofNat n)) = numL n := numS_nat n
    have hn : n < 10 ^ 60 := hz
    have dg := numL_digits n
    have e0 : Txt.startswith (numS (Int.ofNat n)) (Str.ofString "-") = false := by
      rw [e, ht]
      cases h : (numL n).head? with
      | none => rfl
      | some c =>
        have := dg c (List.mem_of_mem_head? (by rw [h]; rfl))
        exact beq_eq_false_iff_ne.mpr (by omega)
    rw [e0]
    refine num_tail (n := n) rfl ht hn (fun z => ?_) hi hl q
    rw [z] at ht
    have := dg 45 (by rw [← ht]; decide +kernel)
    omega
  | negSucc n =>
    have ht := numS_neg n
    have hn : n + 1 < 10 ^ 60 := hz
    rw [e, ht]
    walk_at "go"
    refine num_tail (n := n + 1) rfl (cut1 _ ht) hn (fun z => ?_) hi hl q
    rw [z] at ht
    have h : numL (n + 1) = [48] := by
      have : tl (Str.ofString "-0") = [45, 48] := by decide +kernel
      rw [this] at ht
      injection ht with _ ht
      exact ht.symm
    have := head_zero (n := n + 1) (by rw [h]; rfl)
    omega

theorem log_of {z : Int} (h : okN z) : z.natAbs.log2 < 1920 := by
  have h : z.natAbs < 10 ^ 60 := h
  by_cases h0 : z.natAbs = 0
  · rw [h0]; decide
  · exact (Nat.log2_lt h0).mpr (Nat.lt_of_lt_of_le h (by decide +kernel))
/-! ### joined texts -/
theorem sum_le {L : Nat} : ∀ {ys : List Str}, (∀ y ∈ ys, y.length ≤ L) → (ys.map (·.length)).sum ≤ ys.length * L
  | [], _ => Nat.zero_le _
  | y :: ys, h => by
    rw [List.map_cons, List.sum_cons, List.length_cons, Nat.add_mul]
    have := h y List.mem_cons_self
    have := sum_le fun z hz => h z (List.mem_cons_of_mem _ hz)
    omega
theorem joinL_len (S : List Nat) : ∀ ps : List (List Nat), (joinL S ps).length ≤ (ps.map (·.length)).sum + ps.length * S.length
  | [] => Nat.zero_le _
  | [p] => by show p.length ≤ p.length + 0 + _; omega
  | p :: q :: r => by
    have ih := joinL_len S (q :: r)
    show (p ++ (S ++ joinL S (q :: r))).length ≤ _
    rw [List.length_append, List.length_append, List.map_cons, List.sum_cons, List.length_cons, Nat.add_mul]
    omega
theorem join_len {y : Str} {L : Nat} {ys : List Str} (h : ∀ z ∈ ys, z.length ≤ L) : (Txt.join y ys).length ≤ ys.length * L + ys.length * y.length := by
  rw [join_eq, len_tl, tl_join]
  have a := joinL_len (tl y) (ys.map tl)
  rw [List.map_map, List.length_map, ← len_tl] at a
  have b := sum_le h
  have e : ys.map ((fun l : List Nat => l.length) ∘ tl) = ys.map (·.length) := List.map_congr_left fun z _ => (len_tl z).symm
  rw [e] at a
  omega
theorem join_signs {y : Str} {P : Nat → Prop} (hy : ∀ c ∈ tl y, P c) : ∀ {ys : List Str}, (∀ z ∈ ys, ∀ c ∈ tl z, P c) → ∀ c ∈ tl (Txt.join y ys), P c := fun {ys} h c hc => by
  rw [join_eq, tl_join] at hc
  have key : ∀ (ps : List (List Nat)), (∀ p ∈ ps, ∀ c ∈ p, P c) → ∀ c ∈ joinL (tl y) ps, P c := fun ps => by
    induction ps with
    | nil => intro _ c hc; cases hc
    | cons p ps ih =>
      intro h c hc
      cases ps with
      | nil => exact h p List.mem_cons_self c hc
      | cons q r =>
        have hc : c ∈ p ++ (tl y ++ joinL (tl y) (q :: r)) := hc
        rcases List.mem_append.mp hc with hc | hc
        · exact h p List.mem_cons_self c hc
        · rcases List.mem_append.mp hc with hc | hc
          · exact hy c hc
          · exact ih (fun z hz => h z (List.mem_cons_of_mem _ hz)) c hc
  refine key _ (fun p hp => ?_) c hc
  obtain ⟨z, hz, rfl⟩ := List.mem_map.mp hp
  exact h z hz
theorem sp1 : (Str.ofString " ").length = 1 := by decide +kernel
theorem sp_tl : tl (Str.ofString " ") = 32 :: [] := by decide +kernel
theorem rd_show_numbers (ds : List D) (Q E : EQ) (_ : ds.length = 1) (h : g_show_numbers ds Q E) : tb_show_numbers (dE Q E) (startD N_show_numbers ds) := by
  obtain ⟨zs, nd, rfl, hn, hz, hl, q⟩ := h
  have b := sum_le (L := 61) (ys := zs.map numS) fun y hy => by
    obtain ⟨z, hm, rfl⟩ := List.mem_map.mp hy
    exact numS_len (hz z hm)
  rw [List.length_map] at b
  unfold tb_show_numbers dE
  rcases hn with rfl | rfl
  all_goals
    walk_at "go"
    refine compL_fun D.int (fun z => D.str (numS z)) zs (fun z hm K1 K0 hK => ?_) ?_
    · have := log_of (hz z hm)
      walk_at "go"
      exact hK
    refine ⟨zs.map numS, by rw [List.map_map]; rfl, by rw [sp1, List.length_map]; omega, q⟩
theorem rd_read_numbers (ds : List D) (Q E : EQ) (_ : ds.length = 2) (h : g_read_numbers ds Q E) : tb_read_numbers (dE Q E) (startD N_read_numbers ds) := by
  obtain ⟨zs, rfl, hz, q⟩ := h
  unfold tb_read_numbers dE
  walk_at "go"
  rw [List.length_map, List.length_map, decide_eq_true rfl]
  walk_at "go"
  rw [List.map_map]
  refine compL_fun (D.str ∘ numS) D.int zs (fun z hm K1 K0 hK => ?_) ?_
  · walk_at "go"
    exact ⟨z, rfl, hz z hm, hK⟩
  exact q
theorem rd_words_in {K : PySem.W.Frag} (ds : List D) (Q E : EQ) (_ : ds.length = 1) (h : g_words_in ds Q E) : tb_words_in K (dE Q E) (startD N_words_in ds) := by
  obtain ⟨a, rfl, hl, q⟩ := h
  have sl := split_le a (Str.ofString " ")
  have fw : few ((Txt.split a (Str.ofString " ")).map D.str) := few_of (by rw [List.length_map]; omega)
  unfold tb_words_in dE
  walk_at "go"
  exact q

theorem split_sp {ys : List Str} (hne : ys ≠ []) (h : ∀ y ∈ ys, 32 ∉ tl y) : Txt.split (Txt.join (Str.ofString " ") ys) (Str.ofString " ") = ys := split_join sp_tl (by decide +kernel) hne h
/-! ### rooms -/
theorem row_len {zs : List Int} (h : ∀ z ∈ zs, okN z) : (rowS zs).length ≤ zs.length * 62 := by
  have a := join_len (y := Str.ofString " ") (L := 61) (ys := zs.map numS) fun y hy => by
    obtain ⟨z, hm, rfl⟩ := List.mem_map.mp hy
    exact numS_len (h z hm)
  rw [List.length_map, sp1] at a
  unfold rowS
  omega
theorem row_signs (zs : List Int) : ∀ c ∈ tl (rowS zs), c = 45 ∨ c = 32 ∨ (48 ≤ c ∧ c ≤ 57) := join_signs (P := fun c => c = 45 ∨ c = 32 ∨ (48 ≤ c ∧ c ≤ 57)) (fun c hc => by rw [sp_tl] at hc; exact .inr (.inl (List.mem_singleton.mp hc))) fun y hy c hc => by
  obtain ⟨z, hm, rfl⟩ := List.mem_map.mp hy
  rcases numS_signs z c hc with e | e
  · exact .inl e
  · exact .inr (.inr e)
theorem cs_tl : tl (Str.ofString ", ") = 44 :: [32] := by decide +kernel
theorem room_all {r : List Int} {rs : List (List Int)} : Txt.join (Str.ofString ", ") ((r :: rs).map rowS) ≠ Str.ofString "all" := fun e => by
  have := join_signs (y := Str.ofString ", ") (P := fun c => c ≠ 97) (fun c hc => by
    rw [cs_tl] at hc
    rcases List.mem_cons.mp hc with rfl | hc
    · decide
    · rw [List.mem_singleton.mp hc]; decide) (ys := (r :: rs).map rowS) (fun y hy c hc => by
    obtain ⟨z, hm, rfl⟩ := List.mem_map.mp hy
    rcases row_signs z c hc with e | e | e <;> omega) 97 (by rw [e]; decide +kernel)
  exact this rfl
theorem room_len {rs : List (List Int)} (h : ∀ r ∈ rs, r.length ≤ 10 ∧ ∀ z ∈ r, okN z) : (Txt.join (Str.ofString ", ") (rs.map rowS)).length ≤ rs.length * 622 := by
  have a := join_len (y := Str.ofString ", ") (L := 620) (ys := rs.map rowS) fun y hy => by
    obtain ⟨z, hm, rfl⟩ := List.mem_map.mp hy
    have := row_len (h z hm).2
    have := (h z hm).1
    omega
  rw [List.length_map, show (Str.ofString ", ").length = 2 from by decide +kernel] at a
  omega
theorem rd_show_room (ds : List D) (Q E : EQ) (_ : ds.length = 1) (h : g_show_room ds Q E) : tb_show_room (dE Q E) (startD N_show_room ds) := by
  obtain ⟨rs, rfl, hr, hl, q⟩ := h
  unfold tb_show_room dE
  cases rs with
  | nil =>
    walk_at "go"
    refine ⟨plain_of rfl, plain_of rfl, ?_⟩
    rw [eqv_self 64 _ (show D.okk 64 (D.lst []) = true from rfl)]
    walk_at "go"
    exact q
  | cons r rs =>
    walk_at "go"
    refine compL_fun tupI (fun r => D.str (rowS r)) (r :: rs) (fun r hm K1 K0 hK => ?_) ?_
    · walk_at "go"
      exact ⟨r, _, rfl, .inl rfl, (hr r hm).2, by have := (hr r hm).1; omega, hK⟩
    have b := sum_le (L := 620) (ys := (r :: rs).map rowS) fun y hy => by
      obtain ⟨z, hm, rfl⟩ := List.mem_map.mp hy
      have := row_len (hr z hm).2
      have := (hr z hm).1
      omega
    rw [List.length_map] at b
    refine ⟨(r :: rs).map rowS, by rw [List.map_map]; rfl, by rw [show (Str.ofString ", ").length = 2 from by decide +kernel, List.length_map]; omega, q⟩
end Dl

/-! Texts joined of joined ones; a separator that begins with a blank. -/
namespace Dl
open PySem PySem.Spec
open PyProof.Rows L2 TL
theorem joinL_app (S : List Nat) : ∀ (p q : List (List Nat)), p ≠ [] → q ≠ [] → joinL S (p ++ q) = joinL S p ++ (S ++ joinL S q)
  | [], _, h, _ => absurd rfl h
  | [a], [], _, h => absurd rfl h
  | [a], b :: q, _, _ => rfl
  | a :: b :: p, q, _, h => by
    show a ++ (S ++ joinL S (b :: p ++ q)) = (a ++ (S ++ joinL S (b :: p))) ++ (S ++ joinL S q)
    rw [joinL_app S (b :: p) q (fun z => nomatch z) h, List.append_assoc, List.append_assoc]
theorem join_app (y : Str) {p q : List Str} (hp : p ≠ []) (hq : q ≠ []) : Txt.join y (p ++ q) = Txt.join y p ++ y ++ Txt.join y q := ext_tl (by
  rw [join_eq, join_eq, join_eq, tl_append, tl_append, tl_join, tl_join, tl_join, List.map_append, joinL_app _ _ _ (fun z => hp (List.map_eq_nil_iff.mp z)) (fun z => hq (List.map_eq_nil_iff.mp z)), List.append_assoc])
theorem join_one (y a : Str) : Txt.join y [a] = a := ext_tl (by rw [join_eq, tl_join]; rfl)
theorem join_cons (y a : Str) {q : List Str} (hq : q ≠ []) : Txt.join y (a :: q) = a ++ y ++ Txt.join y q := by
  rw [show a :: q = [a] ++ q from rfl, join_app y (p := [a]) (List.cons_ne_nil _ _) hq, join_one]
/-- joined of joined -/
theorem join_join (y : Str) : ∀ {ps : List (List Str)}, (∀ p ∈ ps, p ≠ []) → Txt.join y (ps.map (Txt.join y)) = Txt.join y ps.flatten
  | [], _ => rfl
  | [p], _ => by rw [List.map_cons, List.map_nil, join_one, List.flatten_cons, List.flatten_nil, List.append_nil]
  | p :: q :: r, h => by
    have ih := join_join y (ps := q :: r) fun z hz => h z (List.mem_cons_of_mem _ hz)
    have hq : (q :: r).flatten ≠ [] := fun z => h q (List.mem_cons_of_mem _ List.mem_cons_self) (by
      rw [List.flatten_cons] at z
      exact (List.append_eq_nil_iff.mp z).1)
    rw [List.map_cons, join_cons y _ (q := (q :: r).map (Txt.join y)) (List.cons_ne_nil _ _), ih, show (p :: q :: r).flatten = p ++ (q :: r).flatten from rfl, join_app y (h p List.mem_cons_self) hq]
/-! ### a separator of which the second sign is nowhere in the parts -/
theorem pre2 {s t : Nat} {S L : List Nat} (h : L[1]? ≠ some t) : pre (s :: t :: S) L = false := by
  unfold pre
  refine beq_eq_false_iff_ne.mpr fun z => h ?_
  have e := congrArg (fun l : List Nat => l[1]?) z
  have e : (L.take (s :: t :: S).length)[1]? = some t := e
  rw [List.getElem?_take_of_lt (by rw [List.length_cons, List.length_cons]; omega)] at e
  exact e
theorem free2 {s t : Nat} {S p q : List Nat} (h : t ∉ p) (hst : s ≠ t) : ∀ i, i < p.length → pre (s :: t :: S) ((p ++ (s :: t :: S ++ q)).drop i) = false := fun i hi => by
  refine pre2 ?_
  rw [List.getElem?_drop]
  by_cases c : i + 1 < p.length
  · rw [List.getElem?_append_left c, List.getElem?_eq_getElem c]
    intro z
    injection z with z
    exact h (by rw [← z]; exact List.getElem_mem c)
  · rw [List.getElem?_append_right (by omega), show i + 1 - p.length = 0 by omega]
    intro z
    injection z with z
    exact hst z
theorem free2l {s t : Nat} {S p : List Nat} (h : t ∉ p) : ∀ i, i < p.length → pre (s :: t :: S) (p.drop i) = false := fun i hi => by
  refine pre2 ?_
  rw [List.getElem?_drop]
  by_cases c : i + 1 < p.length
  · rw [List.getElem?_eq_getElem c]
    intro z
    injection z with z
    exact h (by rw [← z]; exact List.getElem_mem c)
  · rw [List.getElem?_eq_none (by omega)]
    exact fun z => nomatch z
theorem spl_join2 {s t : Nat} {S : List Nat} (hst : s ≠ t) : ∀ {parts : List (List Nat)}, parts ≠ [] → (∀ p ∈ parts, t ∉ p) → spl (s :: t :: S) 0 [] (joinL (s :: t :: S) parts) = parts
  | [], h, _ => absurd rfl h
  | [p], _, hp => by
    show spl (s :: t :: S) 0 [] p = [p]
    rw [spl_last (free2l (hp p (List.mem_singleton.mpr rfl))), List.nil_append]
  | p :: q :: r, _, hp => by
    show spl (s :: t :: S) 0 [] (p ++ (s :: t :: S ++ joinL (s :: t :: S) (q :: r))) = p :: q :: r
    rw [spl_part (S := s :: t :: S) (List.cons_ne_nil _ _) (free2 (hp p List.mem_cons_self) hst), List.nil_append, spl_join2 hst (List.cons_ne_nil _ _) fun z hz => hp z (List.mem_cons_of_mem _ hz)]
theorem split_join2 {y : Str} {s t : Nat} {S : List Nat} (ey : tl y = s :: t :: S) (hst : s ≠ t) (hk : y.cps.all (· < 256) = true) {parts : List Str} (hne : parts ≠ []) (hp : ∀ p ∈ parts, t ∉ tl p) :
    Txt.split (Txt.join y parts) y = parts := by
  refine map_tl_inj ?_
  rw [split_spl _ y (by rw [ey]; simp) (kind_ok hk), join_eq, tl_join, ey]
  refine spl_join2 hst (fun e => hne (List.map_eq_nil_iff.mp e)) fun p h => ?_
  obtain ⟨z, hz, rfl⟩ := List.mem_map.mp h
  exact hp z hz
end Dl

/-! The D-layer, part 44: modes and things drawn. -/
namespace Dl
open PySem PySem.Spec
open PyProof.Rows L2
structure okSM (m : Md) : Prop where
  nexts : ∀ i j, bnd 3 (m.nexts i j)
  push : ∀ i j, bnd 2 (m.push i j)
  add : ∀ i, bnd 103 (m.add i)
  div : 2 ≤ m.div ∧ m.div ≤ 5
  steer : m.steer = fun _ => 0
  rows : ∀ r ∈ m.rows, ∀ j, bnd 103 (r j)
/-! ### things drawn -/
structure okSpec (n : Nat) (ps : List (Int × Int)) (ms : List Md) (u : Int) : Prop where
  n1 : 1 ≤ n
  n3 : n ≤ 3
  pl : ps.length ≤ 2
  pb : ∀ p ∈ ps, p.1 ≤ 0 ∧ 0 ≤ p.2 ∧ bnd 103 p.1 ∧ bnd 103 p.2
  ml : 1 ≤ ms.length ∧ ms.length ≤ 3
  mo : ∀ m ∈ ms, okSM m
  sp : (∀ m ∈ ms, m.rows = []) ∨ ∀ m ∈ ms, ∃ r, m.rows = [r]
  u1 : 1 ≤ u
  u2 : u ≤ 10 ^ 30
end Dl

/-! The D-layer, part 45: right things made. -/
namespace Dl
open PySem PySem.Spec
open PyProof.Rows L2
theorem kn_lst (l : List D) : knD (.lst l) := ⟨(fun z => nomatch z), (fun _ z => nomatch z)⟩
theorem kn_int (z : Int) : knD (.int z) := ⟨(fun z => nomatch z), (fun _ z => nomatch z)⟩
theorem kn_tup (l : List D) : knD (.tup l) := ⟨(fun z => nomatch z), (fun _ z => nomatch z)⟩
theorem ko_tab (n : Nat) (r : Nat → Int) : ko (.lst (tabD n r)) := ⟨kn_lst _, fun xs e x hx => by cases e; obtain ⟨i, hi⟩ := List.getElem?_of_mem hx; rw [(tab_inv hi).2]; exact kn_int _⟩
theorem ko_lstL (n w : Nat) (R : Mat) : ko (.lst (lstL n w R)) := ⟨kn_lst _, fun xs e x hx => by cases e; obtain ⟨i, hi⟩ := List.getElem?_of_mem hx; rw [(rng_inv hi).2]; exact kn_lst _⟩
theorem ko_rows (w : Nat) (rs : List (Nat → Int)) : ko (.lst (rs.map (rowW w))) := ⟨kn_lst _, fun xs e x hx => by cases e; obtain ⟨r, _, rfl⟩ := List.mem_map.mp hx; exact kn_tup _⟩
theorem kw_tab (n : Nat) (r : Nat → Int) : kw (.lst (tabD n r)) := ⟨kn_lst _, fun xs e x hx => by
  have e : tabD n r = xs := by rcases e with e | e <;> cases e; rfl
  subst e
  obtain ⟨i, hi⟩ := List.getElem?_of_mem hx
  rw [(tab_inv hi).2]
  exact fun z => nomatch z⟩
theorem kw_row (n : Nat) (r : Nat → Int) : kw (rowW n r) := ⟨kn_tup _, fun xs e x hx => by
  have e : tabD n r = xs := by rcases e with e | e <;> cases e; rfl
  subst e
  obtain ⟨i, hi⟩ := List.getElem?_of_mem hx
  rw [(tab_inv hi).2]
  exact fun z => nomatch z⟩
theorem kws_rows (w : Nat) (rs : List (Nat → Int)) : kws (.lst (rs.map (rowW w))) := ⟨kn_lst _, fun xs e x hx => by cases e; obtain ⟨r, _, rfl⟩ := List.mem_map.mp hx; exact kw_row _ _⟩
theorem kws_lstL (n w : Nat) (R : Mat) : kws (.lst (lstL n w R)) := ⟨kn_lst _, fun xs e x hx => by cases e; obtain ⟨i, hi⟩ := List.getElem?_of_mem hx; rw [(rng_inv hi).2]; exact kw_tab _ _⟩
theorem wh_tab (n : Nat) (r : Nat → Int) : (tabD n r).all isWhB = true := by
  rw [List.all_eq_true]
  intro d hd
  obtain ⟨i, hi⟩ := List.getElem?_of_mem hd
  rw [(tab_inv hi).2]
  rfl
theorem aw_tab (n : Nat) (r : Nat → Int) : awB (.lst (tabD n r)) n = true := by
  show (decide (((tabD n r).length : Int) = (n : Int)) && (tabD n r).all isWhB) = true
  rw [tab_len, wh_tab, decide_eq_true rfl]
  rfl
theorem rw_row (n : Nat) (r : Nat → Int) : rwB (rowW (n + 1) r) n = true := by
  show (decide (((tabD (n + 1) r).length : Int) = (n : Int) + 1) && (tabD (n + 1) r).all isWhB) = true
  rw [tab_len, wh_tab, decide_eq_true (by omega)]
  rfl
theorem rm_rows (n : Nat) (rs : List (Nat → Int)) : rmB (.lst (rs.map (rowW (n + 1)))) n = true := by
  show (rs.map (rowW (n + 1))).all (fun r => rwB r n) = true
  rw [List.all_eq_true]
  intro d hd
  obtain ⟨r, _, rfl⟩ := List.mem_map.mp hd
  exact rw_row n r
theorem tb_lstL (n w : Nat) (R : Mat) : tbB (.lst (lstL n w R)) n w = true := by
  show (decide (((lstL n w R).length : Int) = (n : Int)) && (lstL n w R).all fun r => awB r w) = true
  rw [lstL_len, decide_eq_true rfl, Bool.true_and, List.all_eq_true]
  intro d hd
  obtain ⟨i, hi⟩ := List.getElem?_of_mem hd
  rw [(rng_inv hi).2]
  exact aw_tab w _
theorem kM_md (CM : Addr) (n p : Nat) (m : Md) : kM CM (mdI CM n p m) := .inl ⟨_, _, _, _, _, _, rfl, kws_rows _ _, kws_lstL _ _ _, kw_tab _ _, kws_lstL _ _ _, kw_tab _ _, fun z => nomatch z⟩
theorem mdB_md (CM : Addr) (n p : Nat) (m : Md) (hd : 1 ≤ m.div) : mdB CM (mdI CM n p m) n p = true := by
  show (decide (CM = CM) && (rmB (.lst (m.rows.map (rowW (n + 1)))) n && tbB (.lst (lstL n n m.nexts)) n n && awB (.lst (tabD n m.steer)) n && tbB (.lst (lstL n p m.push)) n p && awB (.lst (tabD n m.add)) n && dvB (.int m.div))) = true
  rw [rm_rows, tb_lstL, aw_tab, tb_lstL, aw_tab, decide_eq_true rfl, show dvB (.int m.div) = true from decide_eq_true hd]
  rfl
theorem kPs_pD (ps : List (Int × Int)) : kPs (.lst (ps.map pD)) := ⟨kn_lst _, fun xs e x hx => by
  cases e
  obtain ⟨q, _, rfl⟩ := List.mem_map.mp hx
  exact ⟨kn_tup _, fun a b e => by cases e; exact ⟨(fun z => nomatch z), (fun z => nomatch z)⟩⟩⟩
theorem psB_pD (ps : List (Int × Int)) (h : ∀ q ∈ ps, q.1 ≤ q.2) : psB' (.lst (ps.map pD)) = true := by
  show (ps.map pD).all psB = true
  rw [List.all_eq_true]
  intro d hd
  obtain ⟨q, hq, rfl⟩ := List.mem_map.mp hd
  exact decide_eq_true (h q hq)
/-- a right thing is made -/
theorem thing_ok {CM : Addr} {n : Nat} {ps : List (Int × Int)} {ms : List Md} (n1 : 1 ≤ n) (n3 : n ≤ 3) (p6 : ps.length ≤ 6) (hp : ∀ q ∈ ps, q.1 ≤ q.2) (m1 : ms ≠ []) (m40 : ms.length ≤ 40) (hd : ∀ m ∈ ms, 1 ≤ m.div) :
    isWh (.int n) ≠ none ∧ kPs (.lst (ps.map pD)) ∧ kMs CM (.lst (ms.map (mdI CM n ps.length))) ∧ thB CM (.int n) (.lst (ps.map pD)) (.lst (ms.map (mdI CM n ps.length))) = true ∧ ¬ (6 < lenD (.lst (ps.map pD)) ∨ 40 < lenD (.lst (ms.map (mdI CM n ps.length)))) := by
  refine ⟨(fun z => nomatch z), kPs_pD ps, ⟨kn_lst _, fun xs e x hx => by cases e; obtain ⟨m, _, rfl⟩ := List.mem_map.mp hx; exact kM_md CM n _ m⟩, ?_, ?_⟩
  have h1 : thB CM (.int n) (.lst (ps.map pD)) (.lst (ms.map (mdI CM n ps.length))) = true := by
    unfold thB
    have a1 : manyB (.int n) = true := by
      show (decide (1 ≤ (n : Int)) && decide ((n : Int) ≤ 3)) = true
      rw [decide_eq_true (by omega), decide_eq_true (by omega)]; rfl
    rw [a1, psB_pD ps hp, Bool.true_and, Bool.true_and]
    show msB CM (n : Int) (.lst (ms.map (mdI CM n ps.length))) ((ps.map pD).length : Int) = true
    rw [List.length_map]
    cases ms with
    | nil => exact absurd rfl m1
    | cons m ms =>
      show ((m :: ms).map (mdI CM n ps.length)).all (fun d => mdB CM d n ps.length) = true
      rw [List.all_eq_true]
      intro d hd'
      obtain ⟨m', hm', rfl⟩ := List.mem_map.mp hd'
      exact mdB_md CM n _ m' (hd m' hm')
  · exact h1
  · show ¬ (6 < (ps.map pD).length ∨ 40 < (ms.map (mdI CM n ps.length)).length)
    rw [List.length_map, List.length_map]
    omega
end Dl

/-! The D-layer, part 46: list(range(n)). -/
namespace Dl
open PySem PySem.Spec
open PyProof.Rows L2
section
variable {X : Cx} {W : WX} {a : Expr} {ta : TD}
end
end Dl

/-! Linear inequalities over the rationals, part 1: a system has a point, or a sum of its rows shows that it has none. -/
namespace Lp
abbrev V := Nat → Rat
abbrev Row := V × Rat
def qd (a x : V) : Nat → Rat
  | 0 => 0
  | n + 1 => qd a x n + a n * x n
theorem qd_congr {a b x y : V} : ∀ {n : Nat}, (∀ j, j < n → a j = b j) → (∀ j, j < n → x j = y j) → qd a x n = qd b y n
  | 0, _, _ => rfl
  | n + 1, h, k => by
    unfold qd
    rw [qd_congr (n := n) (fun j hj => h j (by omega)) fun j hj => k j (by omega), h n (by omega), k n (by omega)]
theorem qd_lin (c : Rat) (a b x : V) : ∀ n, qd (fun j => c * a j + b j) x n = c * qd a x n + qd b x n
  | 0 => by unfold qd; grind
  | n + 1 => by unfold qd; rw [qd_lin c a b x n]; grind
theorem qd_lin_r (c : Rat) (a x y : V) : ∀ n, qd a (fun j => x j + c * y j) n = qd a x n + c * qd a y n
  | 0 => by unfold qd; grind
  | n + 1 => by unfold qd; rw [qd_lin_r c a x y n]; grind
theorem qd_zero {a x : V} : ∀ {n : Nat}, (∀ j, j < n → a j = 0) → qd a x n = 0
  | 0, _ => rfl
  | n + 1, h => by unfold qd; rw [qd_zero (n := n) fun j hj => h j (by omega), h n (by omega)]; grind
def hold (n : Nat) (r : Row) (x : V) : Prop := qd r.1 x n ≤ r.2
def cmb (c : Rat) (r s : Row) : Row := (fun j => c * r.1 j + s.1 j, c * r.2 + s.2)
/-- sums of rows, each so many times, none a negative number of times -/
inductive Nn (L : List Row) : Row → Prop
  | zero : Nn L (fun _ => 0, 0)
  | add {c : Rat} {r s : Row} : r ∈ L → 0 ≤ c → Nn L s → Nn L (cmb c r s)
theorem Nn.eq {L : List Row} {s t : Row} (h : Nn L s) (e1 : s.1 = t.1) (e2 : s.2 = t.2) : Nn L t := by
  have : s = t := Prod.ext e1 e2
  exact this ▸ h
theorem Nn.plus {L : List Row} {s t : Row} (h : Nn L s) (k : Nn L t) : Nn L (fun j => s.1 j + t.1 j, s.2 + t.2) := by
  induction h with
  | zero => exact k.eq (funext fun j => by show t.1 j = 0 + t.1 j; grind) (by show t.2 = 0 + t.2; grind)
  | add hr hc hs ih => exact (Nn.add hr hc ih).eq (funext fun j => by unfold cmb; dsimp only; grind) (by unfold cmb; dsimp only; grind)
theorem Nn.scale {L : List Row} {s : Row} {c : Rat} (hc : 0 ≤ c) (h : Nn L s) : Nn L (fun j => c * s.1 j, c * s.2) := by
  induction h with
  | zero => exact Nn.zero.eq (funext fun j => by show 0 = c * 0; grind) (by show 0 = c * 0; grind)
  | @add d r s hr hd hs ih =>
    exact (Nn.add (c := c * d) hr (Rat.mul_nonneg hc hd) ih).eq (funext fun j => by unfold cmb; dsimp only; grind) (by unfold cmb; dsimp only; grind)
theorem Nn.mem {L : List Row} {r : Row} (h : r ∈ L) : Nn L r :=
  (Nn.add (c := 1) h (by decide) Nn.zero).eq (funext fun j => by unfold cmb; dsimp only; grind) (by unfold cmb; dsimp only; grind)
theorem Nn.trans {L L' : List Row} {s : Row} (h : Nn L' s) (k : ∀ r ∈ L', Nn L r) : Nn L s := by
  induction h with
  | zero => exact .zero
  | @add c r s hr hc hs ih => exact ((Nn.scale hc (k r hr)).plus ih).eq rfl rfl
theorem Nn.at_zero {L : List Row} {s : Row} {j : Nat} (h : Nn L s) (k : ∀ r ∈ L, r.1 j = 0) : s.1 j = 0 := by
  induction h with
  | zero => rfl
  | @add c r s hr hc hs ih => unfold cmb; dsimp only; rw [k r hr, ih]; grind
/-- what holds all rows holds their sums -/
theorem Nn.holds {L : List Row} {s : Row} {n : Nat} {x : V} (h : Nn L s) (k : ∀ r ∈ L, hold n r x) : hold n s x := by
  induction h with
  | zero => unfold hold; rw [qd_zero fun _ _ => rfl]; exact Rat.le_refl
  | @add c r s hr hc hs ih =>
    unfold hold cmb at *
    dsimp only
    rw [qd_lin]
    have h1 := Rat.mul_le_mul_of_nonneg_left (k r hr) hc
    grind
/-- between lower and upper numbers there is one -/
theorem top_of : ∀ (l : List Rat), l ≠ [] → ∃ m ∈ l, ∀ x ∈ l, x ≤ m
  | [x], _ => ⟨x, List.mem_cons_self, fun y hy => by rw [List.mem_singleton.mp hy]; exact Rat.le_refl⟩
  | x :: y :: l, _ => by
    obtain ⟨m, hm, h⟩ := top_of (y :: l) (fun z => nomatch z)
    by_cases e : x ≤ m
    · exact ⟨m, List.mem_cons_of_mem _ hm, fun z hz => (List.mem_cons.mp hz).elim (fun q => q ▸ e) (h z)⟩
    · exact ⟨x, List.mem_cons_self, fun z hz => (List.mem_cons.mp hz).elim (fun q => by rw [q]; exact Rat.le_refl) fun q => by have := h z q; grind⟩
theorem low_of (l : List Rat) (h : l ≠ []) : ∃ m ∈ l, ∀ x ∈ l, m ≤ x := by
  obtain ⟨m, hm, k⟩ := top_of (l.map (- ·)) (fun z => h (List.map_eq_nil_iff.mp z))
  obtain ⟨y, hy, rfl⟩ := List.mem_map.mp hm
  exact ⟨y, hy, fun x hx => by have := k (-x) (List.mem_map.mpr ⟨x, hx, rfl⟩); grind⟩
theorem between (ls us : List Rat) (h : ∀ l ∈ ls, ∀ u ∈ us, l ≤ u) : ∃ t, (∀ l ∈ ls, l ≤ t) ∧ ∀ u ∈ us, t ≤ u := by
  by_cases e : ls = []
  · subst e
    by_cases f : us = []
    · subst f; exact ⟨0, (fun l hl => nomatch hl), (fun u hu => nomatch hu)⟩
    · obtain ⟨m, hm, k⟩ := low_of us f
      exact ⟨m, (fun l hl => nomatch hl), k⟩
  · obtain ⟨m, hm, k⟩ := top_of ls e
    exact ⟨m, k, fun u hu => h m hm u hu⟩
def fmL (n : Nat) (L : List Row) : List Row :=
  L.filter (fun r => decide (r.1 n = 0)) ++ (L.filter fun r => decide (0 < r.1 n)).flatMap fun p => (L.filter fun r => decide (r.1 n < 0)).map fun q =>
    (fun j => p.1 n * q.1 j + -(q.1 n) * p.1 j, p.1 n * q.2 + -(q.1 n) * p.2)
theorem fmL_nn {n : Nat} {L : List Row} : ∀ r ∈ fmL n L, Nn L r ∧ r.1 n = 0 := fun r hr => by
  unfold fmL at hr
  rcases List.mem_append.mp hr with hr | hr
  · obtain ⟨h1, h2⟩ := List.mem_filter.mp hr
    exact ⟨.mem h1, of_decide_eq_true h2⟩
  · obtain ⟨p, hp, hr⟩ := List.mem_flatMap.mp hr
    obtain ⟨q, hq, rfl⟩ := List.mem_map.mp hr
    obtain ⟨p1, p2⟩ := List.mem_filter.mp hp
    obtain ⟨q1, q2⟩ := List.mem_filter.mp hq
    have p2 := of_decide_eq_true p2
    have q2 := of_decide_eq_true q2
    refine ⟨((Nn.scale (c := p.1 n) (by grind) (.mem q1)).plus (Nn.scale (c := -(q.1 n)) (by grind) (.mem p1))), ?_⟩
    dsimp only
    grind
theorem fm_arith {a b c d f g u v : Rat} (hh : d * a + -c * b ≤ d * f + -c * g) (e1 : u * c = f - a) (e3 : v * d = g - b) (hc : c < 0) (hd : 0 < d) : u ≤ v := by
  refine Classical.byContradiction fun z => ?_
  have z : 0 < u - v := by grind
  have m : 0 < (u - v) * (d * -c) := Rat.mul_pos z (Rat.mul_pos hd (by grind))
  have k : d * (f - a) + -c * (g - b) = -((u - v) * (d * -c)) := by rw [← e1, ← e3]; grind
  grind
theorem fmL_point {n : Nat} {L : List Row} {x : V} (h : ∀ r ∈ fmL n L, hold n r x) : ∃ t, ∀ r ∈ L, qd r.1 x n + r.1 n * t ≤ r.2 := by
  obtain ⟨t, h1, h2⟩ := between ((L.filter fun r => decide (r.1 n < 0)).map fun q => (q.2 - qd q.1 x n) / q.1 n) ((L.filter fun r => decide (0 < r.1 n)).map fun p => (p.2 - qd p.1 x n) / p.1 n) (fun l hl u hu => by
    obtain ⟨q, hq, rfl⟩ := List.mem_map.mp hl
    obtain ⟨p, hp, rfl⟩ := List.mem_map.mp hu
    have hh := h _ (List.mem_append_right _ (List.mem_flatMap.mpr ⟨p, hp, List.mem_map.mpr ⟨q, hq, rfl⟩⟩))
    have p2 : 0 < p.1 n := of_decide_eq_true (List.mem_filter.mp hp).2
    have q2 : q.1 n < 0 := of_decide_eq_true (List.mem_filter.mp hq).2
    unfold hold at hh
    dsimp only at hh
    rw [qd_lin (p.1 n) q.1 (fun j => -(q.1 n) * p.1 j) x n] at hh
    have e : qd (fun j => -(q.1 n) * p.1 j) x n = -(q.1 n) * qd p.1 x n := by
      have := qd_lin (-(q.1 n)) p.1 (fun _ => 0) x n
      rw [qd_zero (a := fun _ => 0) fun _ _ => rfl] at this
      have e2 : (fun j => -(q.1 n) * p.1 j + (fun _ => (0 : Rat)) j) = fun j => -(q.1 n) * p.1 j := funext fun j => by dsimp only; grind
      rw [e2] at this
      grind
    rw [e] at hh
    generalize qd q.1 x n = a at *
    generalize qd p.1 x n = b at *
    generalize q.1 n = c at *
    generalize p.1 n = d at *
    generalize q.2 = f at *
    generalize p.2 = g at *
    -- d (f - a) >= -c (b - g) .. over c, d
    have e1 : (f - a) / c * c = f - a := by grind
    have e3 : (g - b) / d * d = g - b := by grind
    exact fm_arith hh e1 e3 q2 p2)
  refine ⟨t, fun r hr => ?_⟩
  by_cases e : r.1 n = 0
  · have := h r (List.mem_append_left _ (List.mem_filter.mpr ⟨hr, decide_eq_true e⟩))
    unfold hold at this
    rw [e]
    grind
  by_cases f : 0 < r.1 n
  · have := h2 _ (List.mem_map.mpr ⟨r, List.mem_filter.mpr ⟨hr, decide_eq_true f⟩, rfl⟩)
    have m := Rat.mul_le_mul_of_nonneg_left this (c := r.1 n) (by grind)
    have e1 : r.1 n * ((r.2 - qd r.1 x n) / r.1 n) = r.2 - qd r.1 x n := by grind
    grind
  · have f : r.1 n < 0 := by grind
    have := h1 _ (List.mem_map.mpr ⟨r, List.mem_filter.mpr ⟨hr, decide_eq_true f⟩, rfl⟩)
    have m := Rat.mul_le_mul_of_nonneg_left this (c := -(r.1 n)) (by grind)
    have e1 : r.1 n * ((r.2 - qd r.1 x n) / r.1 n) = r.2 - qd r.1 x n := by grind
    grind
/-- a system has a point, or a sum of its rows shows that it has none -/
theorem farkas : ∀ (n : Nat) (L : List Row), (∃ x : V, ∀ r ∈ L, hold n r x) ∨ ∃ s : Row, Nn L s ∧ (∀ j, j < n → s.1 j = 0) ∧ s.2 < 0
  | 0, L => by
    by_cases h : ∀ r ∈ L, 0 ≤ r.2
    · exact .inl ⟨fun _ => 0, fun r hr => h r hr⟩
    · obtain ⟨r, hr⟩ := Classical.not_forall.mp h
      obtain ⟨h1, h2⟩ := Classical.not_imp.mp hr
      exact .inr ⟨r, .mem h1, (fun j hj => absurd hj (Nat.not_lt_zero j)), by grind⟩
  | n + 1, L => by
    rcases farkas n (fmL n L) with ⟨x, hx⟩ | ⟨s, h1, h2, h3⟩
    · obtain ⟨t, ht⟩ := fmL_point hx
      refine .inl ⟨fun j => if j = n then t else x j, fun r hr => ?_⟩
      unfold hold qd
      rw [qd_congr (b := r.1) (y := x) (fun _ _ => rfl) fun j hj => by rw [if_neg (by omega)], if_pos rfl]
      exact ht r hr
    · refine .inr ⟨s, h1.trans fun r hr => (fmL_nn r hr).1, fun j hj => ?_, h3⟩
      by_cases e : j = n
      · rw [e]; exact h1.at_zero fun r hr => (fmL_nn r hr).2
      · exact h2 j (by omega)
end Lp

/-! Linear inequalities over the rationals, part 2: shares by place; fewest shares. -/
namespace Lp
/-- m rows over n numbers, their bounds -/
structure Sys where
  m : Nat
  n : Nat
  A : Nat → V
  b : V
def Sys.feas (S : Sys) (x : V) : Prop := ∀ k, k < S.m → qd (S.A k) x S.n ≤ S.b k
/-- what shares come to at a place, and their bound -/
def Sys.at (S : Sys) (y : V) (j : Nat) : Rat := qd y (fun k => S.A k j) S.m
def Sys.cost (S : Sys) (y : V) : Rat := qd y S.b S.m
theorem qd_upd {y a : V} {c : Rat} {i : Nat} : ∀ {m : Nat}, qd (fun k => if k = i then c + y k else y k) a m = qd y a m + if i < m then c * a i else 0
  | 0 => by rw [if_neg (Nat.not_lt_zero i)]; unfold qd; grind
  | m + 1 => by
    unfold qd
    rw [qd_upd (m := m)]
    by_cases e : m = i
    · subst e
      rw [if_pos rfl, if_neg (Nat.lt_irrefl m), if_pos (Nat.lt_succ_self m)]
      grind
    · rw [if_neg e]
      by_cases h : i < m
      · rw [if_pos h, if_pos (by omega)]; grind
      · rw [if_neg h, if_neg (by omega)]; grind
def Sys.rows (S : Sys) : List Row := (List.range S.m).map fun k => (S.A k, S.b k)
theorem nn_shares {S : Sys} {s : Row} (h : Nn S.rows s) : ∃ y : V, (∀ k, 0 ≤ y k) ∧ (∀ j, s.1 j = S.at y j) ∧ s.2 = S.cost y := by
  induction h with
  | zero => exact ⟨fun _ => 0, fun _ => Rat.le_refl, fun j => (qd_zero fun _ _ => rfl).symm, (qd_zero fun _ _ => rfl).symm⟩
  | @add c r s hr hc hs ih =>
    obtain ⟨y, h1, h2, h3⟩ := ih
    obtain ⟨i, hi, rfl⟩ := List.mem_map.mp hr
    have hi := List.mem_range.mp hi
    refine ⟨fun k => if k = i then c + y k else y k, fun k => ?_, fun j => ?_, ?_⟩
    · dsimp only
      split
      · have := h1 k; grind
      · exact h1 k
    · unfold Sys.at
      rw [qd_upd, if_pos hi]
      unfold cmb
      have := h2 j
      unfold Sys.at at this
      dsimp only
      grind
    · unfold Sys.cost
      rw [qd_upd, if_pos hi]
      unfold cmb
      unfold Sys.cost at h3
      dsimp only
      grind
/-- a system has a point, or shares show that it has none -/
theorem Sys.farkas (S : Sys) : (∃ x, S.feas x) ∨ ∃ y : V, (∀ k, 0 ≤ y k) ∧ (∀ j, j < S.n → S.at y j = 0) ∧ S.cost y < 0 := by
  rcases Lp.farkas S.n S.rows with ⟨x, hx⟩ | ⟨s, h1, h2, h3⟩
  · exact .inl ⟨x, fun k hk => hx (S.A k, S.b k) (List.mem_map.mpr ⟨k, List.mem_range.mpr hk, rfl⟩)⟩
  · obtain ⟨y, y1, y2, y3⟩ := nn_shares h1
    exact .inr ⟨y, y1, fun j hj => by rw [← y2 j]; exact h2 j hj, by rw [← y3]; exact h3⟩
/-- the sum of what the rows come to is what their sum comes to -/
theorem at_turn (S : Sys) (y x : V) : ∀ m n, qd (fun j => qd y (fun k => S.A k j) m) x n = qd y (fun k => qd (S.A k) x n) m
  | 0, n => by
    rw [qd_zero (a := fun j => qd y (fun k => S.A k j) 0) fun j _ => rfl]
    rfl
  | m + 1, n => by
    have ih := at_turn S y x m n
    have e : (fun j => qd y (fun k => S.A k j) (m + 1)) = fun j => y m * S.A m j + qd y (fun k => S.A k j) m := funext fun j => by
      show qd y (fun k => S.A k j) m + y m * S.A m j = _
      grind
    rw [e, qd_lin, ih]
    show _ = qd y (fun k => qd (S.A k) x n) m + y m * qd (S.A m) x n
    grind
theorem qd_le {y a b : V} : ∀ {m : Nat}, (∀ k, k < m → 0 ≤ y k) → (∀ k, k < m → a k ≤ b k) → qd y a m ≤ qd y b m
  | 0, _, _ => Rat.le_refl
  | m + 1, h1, h2 => by
    unfold qd
    have ih := qd_le (m := m) (fun k hk => h1 k (by omega)) fun k hk => h2 k (by omega)
    have := Rat.mul_le_mul_of_nonneg_left (h2 m (by omega)) (h1 m (by omega))
    grind
/-- shares' sum at a point is no more than their bound -/
theorem Sys.weak {S : Sys} {x y : V} (hx : S.feas x) (hy : ∀ k, k < S.m → 0 ≤ y k) : qd (S.at y) x S.n ≤ S.cost y := by
  have := at_turn S y x S.m S.n
  unfold Sys.at
  rw [this]
  exact qd_le hy hx
/-! ### fewest shares -/
def cnt (y : V) (m : Nat) : Nat := ((List.range m).filter fun k => decide (y k ≠ 0)).length
theorem cnt_lt {y z : V} {m i : Nat} (h : ∀ k, k < m → z k ≠ 0 → y k ≠ 0) (hi : i < m) (h1 : y i ≠ 0) (h2 : z i = 0) : cnt z m < cnt y m := by
  unfold cnt
  rw [← List.countP_eq_length_filter, ← List.countP_eq_length_filter]
  have le : ∀ l : List Nat, (∀ k ∈ l, k < m) → List.countP (fun k => decide (z k ≠ 0)) l ≤ List.countP (fun k => decide (y k ≠ 0)) l := fun l hl =>
    List.countP_mono_left fun k hk hz => decide_eq_true (h k (hl k hk) (of_decide_eq_true hz))
  have : ∀ l : List Nat, (∀ k ∈ l, k < m) → i ∈ l → List.countP (fun k => decide (z k ≠ 0)) l < List.countP (fun k => decide (y k ≠ 0)) l := by
    intro l
    induction l with
    | nil => intro _ hil; cases hil
    | cons k l ih =>
      intro hl hil
      by_cases e : k = i
      · subst e
        have := le l fun q hq => hl q (List.mem_cons_of_mem _ hq)
        rw [List.countP_cons, List.countP_cons, if_neg (by rw [decide_eq_false (fun n => n h2)]; exact Bool.false_ne_true), if_pos (decide_eq_true h1)]
        omega
      · have ih := ih (fun q hq => hl q (List.mem_cons_of_mem _ hq)) (by rcases List.mem_cons.mp hil with q | q; exact absurd q.symm e; exact q)
        rw [List.countP_cons, List.countP_cons]
        by_cases hz : z k = 0
        · rw [if_neg (by rw [decide_eq_false (fun n => n hz)]; exact Bool.false_ne_true)]
          omega
        · rw [if_pos (decide_eq_true hz), if_pos (decide_eq_true (h k (hl k List.mem_cons_self) hz))]
          omega
  exact this _ (fun k hk => List.mem_range.mp hk) (List.mem_range.mpr hi)
/-- one share comes to nought first -/
theorem shrink {y z : V} {m : Nat} (hy : ∀ k, 0 ≤ y k) (hz : ∀ k, k < m → z k ≠ 0 → y k ≠ 0) (hn : ∃ k, k < m ∧ z k < 0) (h0 : ∀ k, m ≤ k → z k = 0) :
    ∃ t : Rat, 0 < t ∧ (∀ k, 0 ≤ y k + t * z k) ∧ ∃ i, i < m ∧ y i ≠ 0 ∧ y i + t * z i = 0 := by
  obtain ⟨i, hi, hin⟩ := hn
  obtain ⟨t, ht, hl⟩ := low_of (((List.range m).filter fun k => decide (z k < 0)).map fun k => y k / -(z k)) (fun e => by
    have := List.map_eq_nil_iff.mp e
    have hm : i ∈ (List.range m).filter fun k => decide (z k < 0) := List.mem_filter.mpr ⟨List.mem_range.mpr hi, decide_eq_true hin⟩
    rw [this] at hm
    cases hm)
  obtain ⟨q, hq, rfl⟩ := List.mem_map.mp ht
  obtain ⟨q1, q2⟩ := List.mem_filter.mp hq
  have q1 := List.mem_range.mp q1
  have q2 : z q < 0 := of_decide_eq_true q2
  have qy := hz q q1 (by grind)
  have qp : 0 < y q := by have := hy q; grind
  have et : y q / -(z q) * -(z q) = y q := by grind
  have tp : 0 < y q / -(z q) := by
    refine Classical.byContradiction fun w => ?_
    have : y q / -(z q) ≤ 0 := by grind
    have := Rat.mul_le_mul_of_nonneg_right this (c := -(z q)) (by grind)
    grind
  refine ⟨y q / -(z q), tp, fun k => ?_, q, q1, qy, by grind⟩
  by_cases hk : z k < 0
  · have km : k < m := Classical.byContradiction fun w => by have := h0 k (by omega); grind
    have := hl _ (List.mem_map.mpr ⟨k, List.mem_filter.mpr ⟨List.mem_range.mpr km, decide_eq_true hk⟩, rfl⟩)
    have := Rat.mul_le_mul_of_nonneg_right this (c := -(z k)) (by grind)
    have e : y k / -(z k) * -(z k) = y k := by grind
    grind
  · have := Rat.mul_nonneg (Rat.le_of_lt tp) (show 0 ≤ z k by grind)
    have := hy k
    grind
theorem at_lin (S : Sys) (t : Rat) (y z : V) (j : Nat) : S.at (fun k => y k + t * z k) j = S.at y j + t * S.at z j := by
  unfold Sys.at
  have := qd_lin t z y (fun k => S.A k j) S.m
  have e : (fun k => y k + t * z k) = fun k => t * z k + y k := funext fun k => by grind
  rw [e, this]
  grind
theorem cost_lin (S : Sys) (t : Rat) (y z : V) : S.cost (fun k => y k + t * z k) = S.cost y + t * S.cost z := by
  unfold Sys.cost
  have := qd_lin t z y S.b S.m
  have e : (fun k => y k + t * z k) = fun k => t * z k + y k := funext fun k => by grind
  rw [e, this]
  grind
/-- the rows that have a share are independent -/
def Sys.indep (S : Sys) (y : V) : Prop := ∀ z : V, (∀ k, z k ≠ 0 → k < S.m ∧ y k ≠ 0) → (∀ j, j < S.n → S.at z j = 0) → ∀ k, z k = 0
/-- in a system with a point, shares may be had from independent rows, with no greater bound -/
theorem Sys.basic {S : Sys} {x : V} (hx : S.feas x) : ∀ (N : Nat) (y : V), cnt y S.m ≤ N → (∀ k, 0 ≤ y k) → (∀ k, S.m ≤ k → y k = 0) →
    ∃ y' : V, (∀ k, 0 ≤ y' k) ∧ (∀ k, S.m ≤ k → y' k = 0) ∧ (∀ j, j < S.n → S.at y' j = S.at y j) ∧ S.cost y' ≤ S.cost y ∧ S.indep y' := by
  intro N
  induction N with
  | zero =>
    intro y hc hy h0
    refine ⟨y, hy, h0, fun _ _ => rfl, Rat.le_refl, fun z hz _ k => Classical.byContradiction fun w => ?_⟩
    obtain ⟨k1, k2⟩ := hz k w
    have : k ∈ (List.range S.m).filter fun k => decide (y k ≠ 0) := List.mem_filter.mpr ⟨List.mem_range.mpr k1, decide_eq_true k2⟩
    unfold cnt at hc
    rw [List.length_eq_zero_iff.mp (Nat.le_zero.mp hc)] at this
    cases this
  | succ N ih =>
    intro y hc hy h0
    by_cases hi : S.indep y
    · exact ⟨y, hy, h0, fun _ _ => rfl, Rat.le_refl, hi⟩
    · unfold Sys.indep at hi
      obtain ⟨z, hz⟩ := Classical.not_forall.mp hi
      obtain ⟨z1, hz⟩ := Classical.not_imp.mp hz
      obtain ⟨z2, hz⟩ := Classical.not_imp.mp hz
      obtain ⟨i, zi⟩ := Classical.not_forall.mp hz
      -- a way on which the bound does not grow and a share falls
      have way : ∃ w : V, (∀ k, w k ≠ 0 → k < S.m ∧ y k ≠ 0) ∧ (∀ j, j < S.n → S.at w j = 0) ∧ S.cost w ≤ 0 ∧ ∃ k, k < S.m ∧ w k < 0 := by
        have neg1 : ∀ j, S.at (fun k => -(z k)) j = -(S.at z j) := fun j => by
          have := at_lin S (-1) (fun _ => 0) z j
          have e : (fun k => (fun _ => (0 : Rat)) k + -1 * z k) = fun k => -(z k) := funext fun k => by dsimp only; grind
          rw [e, show S.at (fun _ => 0) j = 0 from qd_zero fun _ _ => rfl] at this
          grind
        have neg2 : S.cost (fun k => -(z k)) = -(S.cost z) := by
          have := cost_lin S (-1) (fun _ => 0) z
          have e : (fun k => (fun _ => (0 : Rat)) k + -1 * z k) = fun k => -(z k) := funext fun k => by dsimp only; grind
          rw [e, show S.cost (fun _ => 0) = 0 from qd_zero fun _ _ => rfl] at this
          grind
        have n1 : ∀ k, -(z k) ≠ 0 → k < S.m ∧ y k ≠ 0 := fun k hk => z1 k (by grind)
        have n2 : ∀ j, j < S.n → S.at (fun k => -(z k)) j = 0 := fun j hj => by rw [neg1, z2 j hj]; grind
        -- no z of one sign with a bound below 0
        have sgn : ∀ w : V, (∀ k, 0 ≤ w k) → (∀ j, j < S.n → S.at w j = 0) → 0 ≤ S.cost w := fun w hw hj => by
          have := S.weak hx (fun k _ => hw k)
          rw [qd_zero hj] at this
          exact this
        obtain ⟨im, iy⟩ := z1 i zi
        by_cases c0 : S.cost z ≤ 0
        · by_cases ng : ∃ k, k < S.m ∧ z k < 0
          · exact ⟨z, z1, z2, c0, ng⟩
          · have zp : ∀ k, 0 ≤ z k := fun k => Classical.byContradiction fun w => ng ⟨k, (z1 k (by grind)).1, by grind⟩
            have := sgn z zp z2
            refine ⟨fun k => -(z k), n1, n2, by rw [neg2]; grind, i, im, ?_⟩
            have := zp i
            grind
        · by_cases ng : ∃ k, k < S.m ∧ -(z k) < 0
          · exact ⟨fun k => -(z k), n1, n2, by rw [neg2]; grind, ng⟩
          · have zp : ∀ k, 0 ≤ -(z k) := fun k => Classical.byContradiction fun w => ng ⟨k, (z1 k (by grind)).1, by grind⟩
            have := sgn (fun k => -(z k)) zp n2
            rw [neg2] at this
            grind
      obtain ⟨w, w1, w2, w3, w4⟩ := way
      obtain ⟨t, t0, t1, q, q1, q2, q3⟩ := shrink hy (fun k hk hw => (w1 k hw).2) w4 fun k hk => Classical.byContradiction fun e => absurd (w1 k e).1 (by omega)
      have lt : cnt (fun k => y k + t * w k) S.m < cnt y S.m := cnt_lt (fun k hk hne e => by
        have : w k = 0 := Classical.byContradiction fun v => (w1 k v).2 e
        apply hne
        rw [e, this]
        grind) q1 q2 q3
      obtain ⟨y', a1, a2, a3, a4, a5⟩ := ih (fun k => y k + t * w k) (by omega) t1 (fun k hk => by
        have : w k = 0 := Classical.byContradiction fun v => absurd (w1 k v).1 (by omega)
        rw [h0 k hk, this]
        grind)
      refine ⟨y', a1, a2, fun j hj => by rw [a3 j hj, at_lin, w2 j hj]; grind, ?_, a5⟩
      rw [cost_lin] at a4
      have := Rat.mul_le_mul_of_nonneg_left w3 (Rat.le_of_lt t0)
      grind
end Lp

/-! Linear inequalities over the rationals, part 3: rings, the most, corners. -/
namespace Lp
theorem at_zero (S : Sys) (j : Nat) : S.at (fun _ => 0) j = 0 := qd_zero fun _ _ => rfl
/-- shares that show that there is no point -/
structure Sys.Shut (S : Sys) (y : V) : Prop where
  nn : ∀ k, 0 ≤ y k
  out : ∀ k, S.m ≤ k → y k = 0
  z : ∀ j, j < S.n → S.at y j = 0
  c : S.cost y < 0
/-! ### the most -/
def Sys.more (S : Sys) (a : V) (β : Rat) : Sys := ⟨S.m + 1, S.n, fun k => if k = S.m then a else S.A k, fun k => if k = S.m then β else S.b k⟩
theorem more_at (S : Sys) (a : V) (β : Rat) (y : V) (j : Nat) : (S.more a β).at y j = S.at y j + y S.m * a j := by
  show qd y (fun k => (if k = S.m then a else S.A k) j) S.m + y S.m * (if S.m = S.m then a else S.A S.m) j = _
  rw [if_pos rfl, qd_congr (a := y) (b := y) (y := fun k => S.A k j) (fun _ _ => rfl) fun k hk => by rw [if_neg (by omega)]]
  rfl
theorem more_cost (S : Sys) (a : V) (β : Rat) (y : V) : (S.more a β).cost y = S.cost y + y S.m * β := by
  show qd y (fun k => if k = S.m then β else S.b k) S.m + y S.m * (if S.m = S.m then β else S.b S.m) = _
  rw [if_pos rfl, qd_congr (a := y) (b := y) (y := S.b) (fun _ _ => rfl) fun k hk => by rw [if_neg (by omega)]]
  rfl
theorem more_feas {S : Sys} {a : V} {β : Rat} {x : V} : (S.more a β).feas x ↔ S.feas x ∧ qd a x S.n ≤ β := by
  unfold Sys.feas Sys.more
  dsimp only
  constructor
  · intro h
    refine ⟨fun k hk => ?_, ?_⟩
    · have := h k (by omega)
      rw [if_neg (by omega), if_neg (by omega)] at this
      exact this
    · have := h S.m (by omega)
      rw [if_pos rfl, if_pos rfl] at this
      exact this
  · rintro ⟨h1, h2⟩ k hk
    by_cases e : k = S.m
    · rw [if_pos e, if_pos e]; exact h2
    · rw [if_neg e, if_neg e]; exact h1 k (by omega)
/-- shares for a target -/
structure Sys.For (S : Sys) (c y : V) : Prop where
  nn : ∀ k, 0 ≤ y k
  out : ∀ k, S.m ≤ k → y k = 0
  eq : ∀ j, j < S.n → S.at y j = c j
theorem Sys.For.bound {S : Sys} {c y x : V} (h : S.For c y) (hx : S.feas x) : qd c x S.n ≤ S.cost y := by
  have := S.weak hx fun k _ => h.nn k
  rw [qd_congr (b := c) (y := x) h.eq fun _ _ => rfl] at this
  exact this
theorem scale_for {S : Sys} {c y : V} {d : Rat} (h0 : ∀ k, 0 ≤ y k) (hd : 0 < d) (h : ∀ j, j < S.n → S.at y j = d * c j) : S.For c (fun k => if k < S.m then d⁻¹ * y k else 0) ∧ S.cost (fun k => if k < S.m then d⁻¹ * y k else 0) = d⁻¹ * S.cost y := by
  have di : d⁻¹ * d = 1 := by grind
  have dp : 0 ≤ d⁻¹ := Classical.byContradiction fun z => by
    have : 0 < -(d⁻¹) * d := Rat.mul_pos (by grind) hd
    grind
  have q : ∀ a : V, qd (fun k => if k < S.m then d⁻¹ * y k else 0) a S.m = d⁻¹ * qd y a S.m := fun a => by
    have := qd_lin d⁻¹ y (fun _ => 0) a S.m
    rw [qd_zero (a := fun _ => 0) fun _ _ => rfl] at this
    rw [qd_congr (b := fun j => d⁻¹ * y j + (fun _ => (0 : Rat)) j) (y := a) (fun k hk => by rw [if_pos hk]; dsimp only; grind) fun _ _ => rfl, this]
    grind
  refine ⟨⟨fun k => ?_, fun k hk => if_neg (by omega), fun j hj => ?_⟩, q S.b⟩
  · split
    · exact Rat.mul_nonneg dp (h0 k)
    · exact Rat.le_refl
  · show qd _ (fun k => S.A k j) S.m = c j
    rw [q]
    have := h j hj
    unfold Sys.at at this
    rw [this]
    grind
end Lp

/-! Linear inequalities over the rationals, part 4: open rooms; corners. -/
namespace Lp
theorem qd_neg (c x : V) (n : Nat) : qd (fun j => -(c j)) x n = -(qd c x n) := by
  have := qd_lin (-1) c (fun _ => 0) x n
  rw [qd_zero (a := fun _ => 0) fun _ _ => rfl] at this
  have e : (fun j => -1 * c j + (fun _ => (0 : Rat)) j) = fun j => -(c j) := funext fun j => by dsimp only; grind
  rw [e] at this
  grind
theorem qd_zero_r {a x : V} : ∀ {n : Nat}, (∀ j, j < n → x j = 0) → qd a x n = 0
  | 0, _ => rfl
  | n + 1, h => by unfold qd; rw [qd_zero_r (n := n) fun j hj => h j (by omega), h n (by omega)]; grind
theorem qd_neg_r (a x : V) (n : Nat) : qd a (fun j => -(x j)) n = -(qd a x n) := by
  have := qd_lin_r (-1) a (fun _ => 0) x n
  rw [qd_zero_r (x := fun _ => 0) fun _ _ => rfl] at this
  have e : (fun j => (fun _ => (0 : Rat)) j + -1 * x j) = fun j => -(x j) := funext fun j => by dsimp only; grind
  rw [e] at this
  grind
theorem qd_smul_r (a x : V) (t : Rat) (n : Nat) : qd a (fun j => t * x j) n = t * qd a x n := by
  have := qd_lin_r t a (fun _ => 0) x n
  rw [qd_zero_r (x := fun _ => 0) fun _ _ => rfl] at this
  have e : (fun j => (fun _ => (0 : Rat)) j + t * x j) = fun j => t * x j := funext fun j => by dsimp only; grind
  rw [e] at this
  grind
/-- where no shares make a row, a way leads on for ever, the row growing -/
theorem Sys.open {S : Sys} {c x0 : V} (hx : S.feas x0) (no : ∀ y, S.For c y → ¬ S.indep y) : ∃ d : V, (∀ k, k < S.m → qd (S.A k) d S.n ≤ 0) ∧ qd c d S.n = 1 := by
  rcases (Sys.more ⟨S.m, S.n, S.A, fun _ => 0⟩ (fun j => -(c j)) (-1)).farkas with ⟨d, h⟩ | ⟨y, y0, y1, y2⟩
  · obtain ⟨h1, h2⟩ := more_feas.mp h
    have h2 : qd (fun j => -(c j)) d S.n ≤ -1 := h2
    rw [qd_neg] at h2
    have p : 0 < qd c d S.n := by grind
    refine ⟨fun j => (qd c d S.n)⁻¹ * d j, fun k hk => ?_, ?_⟩
    · rw [qd_smul_r]
      have h1 : qd (S.A k) d S.n ≤ 0 := h1 k hk
      have ip : 0 ≤ (qd c d S.n)⁻¹ := Classical.byContradiction fun z => by
        have : 0 < -((qd c d S.n)⁻¹) * qd c d S.n := Rat.mul_pos (by grind) p
        have e : (qd c d S.n)⁻¹ * qd c d S.n = 1 := by grind
        grind
      have := Rat.mul_le_mul_of_nonneg_left h1 ip
      grind
    · rw [qd_smul_r]
      grind
  · rw [more_cost] at y2
    have c0 : Sys.cost ⟨S.m, S.n, S.A, fun _ => 0⟩ y = 0 := qd_zero_r fun _ _ => rfl
    rw [c0] at y2
    have dp : 0 < y S.m := by
      show 0 < y S.m
      have y2 : 0 + y S.m * -1 < 0 := y2
      grind
    have z1 : ∀ j, j < S.n → S.at y j = y S.m * c j := fun j hj => by
      have := y1 j hj
      rw [more_at] at this
      have this : S.at y j + y S.m * -(c j) = 0 := this
      grind
    obtain ⟨f, -⟩ := scale_for (c := c) y0 dp z1
    obtain ⟨y', a1, a2, a3, a4, a5⟩ := S.basic hx _ _ (Nat.le_refl _) f.nn f.out
    exact absurd a5 (no y' ⟨a1, a2, fun j hj => by rw [a3 j hj]; exact f.eq j hj⟩)
/-! ### corners -/
/-- the rows that are met just so leave nothing free that another row sees -/
def Sys.full (S : Sys) (x : V) : Prop := ∀ d : V, (∀ k, k < S.m → qd (S.A k) x S.n = S.b k → qd (S.A k) d S.n = 0) → ∀ k, k < S.m → qd (S.A k) d S.n = 0
def Sys.slack (S : Sys) (x : V) : V := fun k => if k < S.m then S.b k - qd (S.A k) x S.n else 0
theorem Sys.corner {S : Sys} {c : V} {v : Rat} (top : ∀ x, S.feas x → qd c x S.n ≤ v) : ∀ (N : Nat) (x : V), cnt (S.slack x) S.m ≤ N → S.feas x → qd c x S.n = v → ∃ x', S.feas x' ∧ qd c x' S.n = v ∧ S.full x' := by
  intro N
  induction N with
  | zero =>
    intro x hc hx hv
    refine ⟨x, hx, hv, fun d hd k hk => hd k hk (Classical.byContradiction fun w => ?_)⟩
    have : k ∈ (List.range S.m).filter fun k => decide (S.slack x k ≠ 0) := List.mem_filter.mpr ⟨List.mem_range.mpr hk, decide_eq_true (by unfold Sys.slack; rw [if_pos hk]; grind)⟩
    unfold cnt at hc
    rw [List.length_eq_zero_iff.mp (Nat.le_zero.mp hc)] at this
    cases this
  | succ N ih =>
    intro x hc hx hv
    by_cases hf : S.full x
    · exact ⟨x, hx, hv, hf⟩
    unfold Sys.full at hf
    obtain ⟨d, hd⟩ := Classical.not_forall.mp hf
    obtain ⟨d1, hd⟩ := Classical.not_imp.mp hd
    obtain ⟨k0, hd⟩ := Classical.not_forall.mp hd
    obtain ⟨k0m, hd⟩ := Classical.not_imp.mp hd
    -- one way or the other
    have pick : ∃ d : V, (∀ k, k < S.m → qd (S.A k) x S.n = S.b k → qd (S.A k) d S.n = 0) ∧ ∃ k, k < S.m ∧ 0 < qd (S.A k) d S.n := by
      by_cases h : 0 < qd (S.A k0) d S.n
      · exact ⟨d, d1, k0, k0m, h⟩
      · refine ⟨fun j => -(d j), fun k hk e => by rw [qd_neg_r, d1 k hk e]; decide, k0, k0m, by rw [qd_neg_r]; grind⟩
    obtain ⟨d, d1, k1, k1m, k1p⟩ := pick
    have step : ∀ d : V, (∀ k, k < S.m → qd (S.A k) x S.n = S.b k → qd (S.A k) d S.n = 0) → (∃ k, k < S.m ∧ 0 < qd (S.A k) d S.n) →
        ∃ t : Rat, 0 < t ∧ S.feas (fun j => x j + t * d j) ∧ cnt (S.slack fun j => x j + t * d j) S.m < cnt (S.slack x) S.m := fun d d1 ⟨k1, k1m, k1p⟩ => by
      obtain ⟨t, t0, t1, i, i1, i2, i3⟩ := shrink (y := S.slack x) (z := fun k => if k < S.m then -(qd (S.A k) d S.n) else 0) (m := S.m) (fun k => by
          unfold Sys.slack
          split
          · have := hx k (by assumption); grind
          · exact Rat.le_refl) (fun k hk hz e => by
          unfold Sys.slack at e
          rw [if_pos hk] at e hz
          apply hz
          rw [d1 k hk (by grind)]
          decide) ⟨k1, k1m, by rw [if_pos k1m]; grind⟩ fun k hk => if_neg (by omega)
      have es : ∀ k, S.slack (fun j => x j + t * d j) k = S.slack x k + t * (if k < S.m then -(qd (S.A k) d S.n) else 0) := fun k => by
        unfold Sys.slack
        by_cases hk : k < S.m
        · rw [if_pos hk, if_pos hk, if_pos hk, qd_lin_r]; grind
        · rw [if_neg hk, if_neg hk, if_neg hk]; grind
      refine ⟨t, t0, fun k hk => ?_, cnt_lt (fun k hk hne e => hne ?_) i1 i2 (by rw [es]; exact i3)⟩
      · have := t1 k
        rw [← es] at this
        unfold Sys.slack at this
        rw [if_pos hk] at this
        grind
      · rw [es, e, if_pos hk]
        unfold Sys.slack at e
        rw [if_pos hk] at e
        rw [d1 k hk (by grind)]
        grind
    obtain ⟨t, t0, f1, f2⟩ := step d d1 ⟨k1, k1m, k1p⟩
    have le1 := top _ f1
    rw [qd_lin_r] at le1
    have ge1 : 0 ≤ qd c d S.n := by
      have n1 : ∀ k, k < S.m → qd (S.A k) x S.n = S.b k → qd (S.A k) (fun j => -(d j)) S.n = 0 := fun k hk e => by rw [qd_neg_r, d1 k hk e]; decide
      by_cases h : ∃ k, k < S.m ∧ 0 < qd (S.A k) (fun j => -(d j)) S.n
      · obtain ⟨u, u0, g1, -⟩ := step _ n1 h
        have := top _ g1
        rw [qd_lin_r, qd_neg_r] at this
        refine Classical.byContradiction fun z => ?_
        have m := Rat.mul_pos u0 (show 0 < -(qd c d S.n) by grind)
        grind
      · have g1 : S.feas (fun j => x j + 1 * -(d j)) := fun k hk => by
          have e := qd_lin_r 1 (S.A k) x (fun j => -(d j)) S.n
          rw [e]
          have := hx k hk
          have h2 : qd (S.A k) (fun j => -(d j)) S.n ≤ 0 := Classical.byContradiction fun z => h ⟨k, hk, by grind⟩
          grind
        have := top _ g1
        have e := qd_lin_r 1 c x (fun j => -(d j)) S.n
        rw [e, qd_neg_r] at this
        grind
    have z : qd c d S.n = 0 := by
      refine Classical.byContradiction fun z => ?_
      have m := Rat.mul_pos t0 (show 0 < qd c d S.n by grind)
      grind
    exact ih _ (by omega) f1 (by rw [qd_lin_r, z]; grind)
end Lp

/-! Linear inequalities over the rationals, part 5: equations by steps. -/
namespace Lp
open Dl
theorem qd_one {a y : V} {p : Nat} : ∀ {n : Nat}, p < n → (∀ j, j < n → j ≠ p → a j * y j = 0) → qd a y n = a p * y p
  | n + 1, hp, h => by
    unfold qd
    by_cases e : p = n
    · subst e
      have z : qd a y p = 0 := by
        have : ∀ m, m ≤ p → qd a y m = 0 := fun m => by
          induction m with
          | zero => intro _; rfl
          | succ m ih => intro hm; unfold qd; rw [ih (by omega), h m (by omega) (by omega)]; grind
        exact this p (Nat.le_refl _)
      rw [z]; grind
    · rw [qd_one (n := n) (by omega) fun j hj hne => h j (by omega) hne, h n (by omega) (by omega)]; grind
theorem qd_all0 {a y : V} : ∀ {n : Nat}, (∀ j, j < n → a j * y j = 0) → qd a y n = 0
  | 0, _ => rfl
  | n + 1, h => by unfold qd; rw [qd_all0 (n := n) fun j hj => h j (by omega), h n (by omega)]; grind
def rq (r : Nat → Int) : V := fun j => (r j : Rat)
theorem qd_int (r y : Nat → Int) : ∀ n, qd (rq r) (rq y) n = ((dot r y n : Int) : Rat)
  | 0 => rfl
  | n + 1 => by
    unfold qd dot
    rw [qd_int r y n]
    unfold rq
    rw [Rat.intCast_add, Rat.intCast_mul]
/-- one bottom for all -/
theorem common_den (y : V) : ∀ w : Nat, ∃ (D : Int) (Y : Nat → Int), 0 < D ∧ ∀ j, j < w → (Y j : Rat) = (D : Rat) * y j
  | 0 => ⟨1, fun _ => 0, by decide, fun j hj => absurd hj (Nat.not_lt_zero j)⟩
  | w + 1 => by
    obtain ⟨D, Y, hD, h⟩ := common_den y w
    refine ⟨D * ((y w).den : Int), fun j => if j < w then Y j * ((y w).den : Int) else D * (y w).num, Int.mul_pos hD (by have := (y w).den_pos; omega), fun j hj => ?_⟩
    by_cases e : j < w
    · dsimp only
      rw [if_pos e, Rat.intCast_mul, Rat.intCast_mul, h j e]; grind
    · have : j = w := by omega
      subst this
      dsimp only
      rw [if_neg e, Rat.intCast_mul, Rat.intCast_mul]
      have : ((y j).num : Rat) = y j * ((y j).den : Int) := by
        have h1 := Rat.num_divInt_den (y j)
        rw [Rat.divInt_eq_div] at h1
        have dn : (((y j).den : Int) : Rat) ≠ 0 := fun z => by
          have z2 : ((y j).den : Int) = 0 := Rat.intCast_inj.mp z
          have := (y j).den_pos
          omega
        generalize (((y j).den : Int) : Rat) = d at *
        generalize ((y j).num : Rat) = u at *
        rw [← h1]
        grind
      rw [this]; grind
def KnQ (w m : Nat) (R : Mat) (y : V) : Prop := ∀ k, k < m → qd (rq (R k)) y w = 0
theorem knq_iff {w m : Nat} {R R0 : Mat} (h : ∀ y, Kn w m R y ↔ Kn w m R0 y) (y : V) : KnQ w m R y ↔ KnQ w m R0 y := by
  obtain ⟨D, Y, hD, hY⟩ := common_den y w
  have key : ∀ R : Mat, KnQ w m R y ↔ Kn w m R Y := fun R => by
    have e : ∀ k, ((dot (R k) Y w : Int) : Rat) = (D : Rat) * qd (rq (R k)) y w := fun k => by
      rw [← qd_int, ← qd_smul_r]
      exact qd_congr (fun _ _ => rfl) fun j hj => hY j hj
    have dn : (D : Rat) ≠ 0 := fun z => by
      have := Rat.intCast_inj.mp (show ((D : Int) : Rat) = ((0 : Int) : Rat) from z)
      omega
    constructor
    · intro h k hk
      have := e k
      rw [h k hk] at this
      exact Rat.intCast_inj.mp (by rw [this]; show (D : Rat) * 0 = ((0 : Int) : Rat); rw [Rat.mul_zero]; rfl)
    · intro h k hk
      have := e k
      rw [h k hk] at this
      have z : (D : Rat) * qd (rq (R k)) y w = 0 := this.symm
      grind
  rw [key R, key R0]
  exact h Y
/-! ### a system of equations, its rows brought to steps -/
section
variable {m c : Nat} {T : Mat}
theorem ech_of (m c : Nat) (T : Mat) : Ech (c + 1) m c T (redG (c + 1) m T c).1 (redG (c + 1) m T c).2 := red_ech (Nat.le_succ c)
def ext (c : Nat) (y : V) (e : Rat) : V := fun j => if j < c then y j else e
theorem qd_ext (a y : V) (e : Rat) (c : Nat) : qd a (ext c y e) (c + 1) = qd a y c + a c * e := by
  show qd a (ext c y e) c + a c * ext c y e c = _
  rw [qd_congr (a := a) (b := a) (x := ext c y e) (y := y) (fun _ _ => rfl) (fun j hj => if_pos hj), show ext c y e c = e from if_neg (Nat.lt_irrefl c)]
/-- the numbers told -/
def xR (R : Mat) (c : Nat) (ps : List Nat) : V := fun q => if q ∈ ps then (R (ps.idxOf q) c : Rat) / (R (ps.idxOf q) q : Rat) else 0
theorem ne_q {i : Int} (h : i ≠ 0) : (i : Rat) ≠ 0 := fun z => h (Rat.intCast_inj.mp (show (i : Rat) = ((0 : Int) : Rat) from z))
/-- a place that is free: numbers that come to nought, 1 there, nought at the other free ones -/
def zR (R : Mat) (ps : List Nat) (q : Nat) : V := fun j => if j = q then 1 else if j ∈ ps then -(R (ps.idxOf j) q : Rat) / (R (ps.idxOf j) j : Rat) else 0
def ker (m c : Nat) (T : Mat) (y : V) : Prop := ∀ k, k < m → qd (rq (T k)) y c = 0
theorem ker_kn {y : V} : ker m c T y ↔ KnQ (c + 1) m T (ext c y 0) := by
  unfold ker KnQ
  constructor
  · intro h k hk
    rw [qd_ext, h k hk]; grind
  · intro h k hk
    have := h k hk
    rw [qd_ext] at this
    grind
theorem zR_ker {R : Mat} {ps : List Nat} (e : Ech (c + 1) m c T R ps) {q : Nat} (hq : q < c) (hn : q ∉ ps) : ker m c T (zR R ps q) := by
  refine ker_kn.mpr ((knq_iff e.kn _).mp fun k hk => ?_)
  rw [qd_ext]
  by_cases hl : k < ps.length
  · have hp : ps[k]? = some ps[k] := List.getElem?_eq_getElem hl
    have pc := e.lt _ (List.getElem_mem hl)
    obtain ⟨v1, v2⟩ := e.piv k _ hp
    have ix := idx_of (inc_nodup e.inc) hp
    have pq : ps[k] ≠ q := fun z => hn (z ▸ List.getElem_mem hl)
    -- two places: the pivot and q
    have split : qd (rq (R k)) (zR R ps q) c = (R k ps[k] : Rat) * zR R ps q ps[k] + (R k q : Rat) := by
      have h1 : zR R ps q = fun j => (if j = q then 0 else zR R ps q j) + 1 * (if j = q then 1 else 0) := funext fun j => by
        by_cases z : j = q
        · rw [if_pos z, if_pos z]; unfold zR; rw [if_pos z]; grind
        · rw [if_neg z, if_neg z]; grind
      conv => lhs; rw [h1]
      rw [qd_lin_r 1 (rq (R k)) (fun j => if j = q then 0 else zR R ps q j) (fun j => if j = q then 1 else 0) c, qd_one (p := ps[k]) pc fun j hj hne => ?_, qd_one (p := q) hq fun j hj hne => ?_]
      · rw [if_pos rfl, if_neg pq]
        show (R k ps[k] : Rat) * _ + 1 * ((R k q : Rat) * 1) = _
        grind
      · rw [if_neg hne]; grind
      · by_cases z : j = q
        · rw [if_pos z]; grind
        · rw [if_neg z]
          unfold zR
          rw [if_neg z]
          by_cases hj2 : j ∈ ps
          · obtain ⟨i, hi⟩ := List.getElem?_of_mem hj2
            have : i ≠ k := fun w => by subst w; rw [hp] at hi; exact hne (Option.some.inj hi).symm
            show (R k j : Rat) * _ = 0
            rw [(e.piv i j hi).2 k hk (Ne.symm this)]
            show (0 : Rat) * _ = 0
            grind
          · rw [if_neg hj2]; grind
    rw [split]
    unfold zR
    rw [if_neg pq, if_pos (List.getElem_mem hl), ix]
    have := ne_q v1
    grind
  · rw [qd_all0 fun j hj => ?_]
    · grind
    · have z : R k j = 0 := by
        by_cases hj2 : j ∈ ps
        · obtain ⟨i, hi⟩ := List.getElem?_of_mem hj2
          have il := (List.getElem?_eq_some_iff.mp hi).1
          exact (e.piv i j hi).2 k hk (by omega)
        · exact e.out j hj hj2 k (by omega) hk
      show (R k j : Rat) * _ = 0
      rw [z]
      show (0 : Rat) * _ = 0
      grind
end
end Lp

/-! Linear inequalities over the rationals, part 6: picked rows. -/
namespace Lp
open Dl
/-- a room as a system -/
def sysOf (m n : Nat) (R : Mat) : Sys := ⟨m, n, fun k => rq (R k), fun k => (R k n : Rat)⟩
/-- the equations for shares of picked rows -/
def tM (R : Mat) (P : List Nat) (tg : Nat → Int) : Mat := fun i j => if j < P.length then R (P.getD j 0) i else tg i
/-! ### shares from independent rows -/
abbrev stp (m c : Nat) (T : Mat) : Mat × List Nat := redG (c + 1) m T c
/-- picked rows that make a target by shares not below 0, and are independent -/
structure Good (n : Nat) (R : Mat) (P : List Nat) (tg : Nat → Int) : Prop where
  ok : badG n P.length (stp n P.length (tM R P tg)).1 (stp n P.length (tM R P tg)).2.length = false
  ful : (stp n P.length (tM R P tg)).2.length = P.length
  nn : ∀ j, j < P.length → 0 ≤ xR (stp n P.length (tM R P tg)).1 P.length (stp n P.length (tM R P tg)).2 j
end Lp

/-! Linear inequalities over the rationals, part 7: rings by steps; dimensions. -/
namespace Lp
open Dl
/-- the places that are no steps -/
def frees (p : Nat) (ps : List Nat) : List Nat := (List.range p).filter fun k => decide (k ∉ ps)
/-- picked rows whose shares, above nought, come to nought: the only ones -/
structure RingP (n : Nat) (R : Mat) (P : List Nat) (q : Nat) : Prop where
  len : (stp n P.length (tM R P fun _ => 0)).2.length + 1 = P.length
  free : frees P.length (stp n P.length (tM R P fun _ => 0)).2 = [q]
  pos : ∀ j, j < P.length → 0 < zR (stp n P.length (tM R P fun _ => 0)).1 (stp n P.length (tM R P fun _ => 0)).2 q j
end Lp

/-! Linear inequalities over the rationals, part 8: dimensions. -/
namespace Lp
open Dl
theorem qd_comm (a b : V) : ∀ n, qd a b n = qd b a n
  | 0 => rfl
  | n + 1 => by unfold qd; rw [qd_comm a b n]; grind
/-- more vectors than places are dependent -/
theorem dep (M : Nat → V) {a b : Nat} (h : b < a) : ∃ l : V, (∃ i, i < a ∧ l i ≠ 0) ∧ ∀ j, j < b → qd l (fun i => M i j) a = 0 := by
  have hc : ∀ j, ∃ (D : Int) (Y : Nat → Int), 0 < D ∧ ∀ i, i < a → (Y i : Rat) = (D : Rat) * M i j := fun j => common_den (fun i => M i j) a
  obtain ⟨D, T, hDT⟩ : ∃ (D : Nat → Int) (T : Nat → Nat → Int), ∀ j, 0 < D j ∧ ∀ i, i < a → (T j i : Rat) = (D j : Rat) * M i j :=
    ⟨fun j => Classical.choose (hc j), fun j => Classical.choose (Classical.choose_spec (hc j)), fun j => Classical.choose_spec (Classical.choose_spec (hc j))⟩
  have e : Ech (a + 1) b a T (stp b a T).1 (stp b a T).2 := ech_of b a T
  have lt : (stp b a T).2.length < a := Nat.lt_of_le_of_lt e.len h
  obtain ⟨q, q1, q2⟩ := inc_gap e.inc e.lt lt
  refine ⟨zR (stp b a T).1 (stp b a T).2 q, ⟨q, q1, by show (if q = q then (1 : Rat) else _) ≠ 0; rw [if_pos rfl]; decide⟩, fun j hj => ?_⟩
  have hk := zR_ker e q1 q2 j hj
  obtain ⟨hD, hY⟩ := hDT j
  generalize zR (stp b a T).1 (stp b a T).2 q = z at *
  have eq : qd (rq (T j)) z a = (D j : Rat) * qd (fun i => M i j) z a := by
    have := qd_lin (D j : Rat) (fun i => M i j) (fun _ => 0) z a
    rw [qd_zero (a := fun _ => 0) fun _ _ => rfl] at this
    rw [qd_congr (a := rq (T j)) (b := fun i => (D j : Rat) * M i j + (fun _ => (0 : Rat)) i) (x := z) (y := z) (fun i hi => (hY i hi).trans (by dsimp only; grind)) fun _ _ => rfl, this]
    grind
  rw [eq] at hk
  have dn := ne_q (Int.ne_of_gt hD)
  rw [qd_comm]
  generalize qd (fun i => M i j) z a = u at *
  generalize (D j : Rat) = d at *
  grind
section
variable {m c : Nat} {T R : Mat} {ps : List Nat}
end
end Lp

/-! Linear inequalities over the rationals, part 9: corners by picked rows. -/
namespace Lp
open Dl
/-- picked rows -/
def pR (R : Mat) (P : List Nat) : Mat := fun i => R (P.getD i 0)
structure Kp (m n : Nat) (R : Mat) (x : V) (P : List Nat) : Prop where
  inc : P.Pairwise (· < ·)
  lt : ∀ k ∈ P, k < m
  tight : ∀ k ∈ P, qd (rq (R k)) x n = (R k n : Rat)
  ker : ∀ d : V, (∀ k ∈ P, qd (rq (R k)) d n = 0) → ∀ k, k < m → qd (rq (R k)) d n = 0
/-- picked rows by which a corner is told -/
structure Corner (m n : Nat) (R : Mat) (P : List Nat) : Prop where
  inc : P.Pairwise (· < ·)
  lt : ∀ k ∈ P, k < m
  len : P.length = (stp m n R).2.length
  ok : badG P.length n (stp P.length n (pR R P)).1 (stp P.length n (pR R P)).2.length = false
  ful : (stp P.length n (pR R P)).2.length = (stp m n R).2.length
end Lp

/-! The D-layer, part 47: the most: choices, equations for shares. -/
namespace Dl
open PySem PySem.Spec
open PyProof.Rows L2
/-! ### fractions made whole -/
def okW (xs : List (Int × Int)) : Prop := ∀ x ∈ xs, 0 < x.2 ∧ bnd 1300 x.1 ∧ bnd 1300 x.2
/-! ### rows added -/
end Dl

/-! The D-layer, part 48: the most: shares by picked rows. -/
namespace Dl
open PySem PySem.Spec
open PyProof.Rows L2
structure okPk (m n b : Nat) (R : Mat) (P : List Nat) : Prop where
  n3 : n ≤ 3
  m14 : m ≤ 14
  nd : P.Nodup
  lt : ∀ k ∈ P, k < m
  p4 : P.length ≤ 4
  R : ∀ i j, bnd b (R i j)
  pn : P.length ≤ n + 1
  e3 : eb b n ≤ 1300
end Dl

/-! The D-layer, part 49: the most: rings. -/
namespace Dl
open PySem PySem.Spec
open PyProof.Rows L2
end Dl

/-! The D-layer, part 50: the most: empty rooms. -/
namespace Dl
open PySem PySem.Spec
open PyProof.Rows L2
/-! ### empty rooms -/
structure okRm (m n b : Nat) (R : Mat) : Prop where
  n1 : 1 ≤ n
  n3 : n ≤ 3
  m14 : m ≤ 14
  R : ∀ i j, bnd b (R i j)
  e3 : eb b n ≤ 1300
  b5 : b ≤ 5000
end Dl

/-! The D-layer, part 51: rows along points of at most three greater numbers (from parts 16 to 19, by a program). -/
namespace Dl
open PySem PySem.Spec
open PyProof.Rows L2
end Dl

/-! The D-layer, part 52: corners. -/
namespace Dl
open PySem PySem.Spec
open PyProof.Rows L2
/-! ### corners -/
def tabI (n : Nat) (r : Nat → Int) : List Int := (List.range n).map r
def liesB (m n : Nat) (R : Mat) (ps : List (Int × Int)) : Bool := ((List.range m).map fun k => (tabI n (R k), R k n)).all fun r => hld r.1 r.2 ps
end Dl

/-! The D-layer, part 53: the way out. -/
namespace Dl
open PySem PySem.Spec
open PyProof.Rows L2
/-! ### the way out -/
end Dl

/-! Linear inequalities, part 10: the program's numbers are the theory's. -/
namespace Lp
open Dl
/-! ### fractions -/
def qv (p : Int × Int) : Rat := (p.1 : Rat) / (p.2 : Rat)
def ptQ (ps : List (Int × Int)) : V := fun j => qv (ps.getD j (0, 1))
/-! ### numbers told by solution -/
/-! ### made whole -/
end Lp

/-! The D-layer, part 54: the least bound of shares. -/
namespace Dl
open PySem PySem.Spec
open PyProof.Rows L2
/-! ### the least bound of shares -/
def lsV (m n : Nat) (R : Mat) (s : Int × (Nat → Int)) : Int × Int := frX (dot (fun i => R i n) s.2 m, s.1)
def okSh (s : Int × (Nat → Int)) : Prop := 0 < s.1 ∧ bnd 4000 s.1 ∧ ∀ j, bnd 5300 (s.2 j)
end Dl

/-! Linear inequalities, part 11: shares and rings as the program tells them. -/
namespace Lp
open Dl
/-! ### shares -/
/-- the shares over their times -/
def yS (s : Int × (Nat → Int)) : V := fun k => (s.2 k : Rat) / (s.1 : Rat)
/-- the shares that shares_by tells -/
structure ShOk (m n : Nat) (R : Mat) (t : Nat → Int) (s : Int × (Nat → Int)) : Prop where
  pos : 0 < s.1
  nn : ∀ k, 0 ≤ s.2 k
  eq : ∀ j, j < n → dot (fun i => R i j) s.2 m = s.1 * t j
  for_ : (sysOf m n R).For (rq t) (yS s)
end Lp

/-! Linear inequalities, part 12: rings and corners as the program tells them. -/
namespace Lp
open Dl
/-! ### rings -/
/-- an empty room's shares -/
structure EmOk (m n : Nat) (R : Mat) (N : Nat → Int) : Prop where
  nn : ∀ k, 0 ≤ N k
  eq : ∀ j, j < n → dot (fun i => R i j) N m = 0
  lt : dot (fun i => R i n) N m < 0
  no : ∀ x, ¬ (sysOf m n R).feas x
end Lp

/-! Linear inequalities, part 13: corners as the program tells them; what most tells. -/
namespace Lp
open Dl
/-! ### corners -/
structure CnOk (m n : Nat) (R : Mat) (ps : List (Int × Int)) : Prop where
  len : ps.length = n
  ok : okP 1300 ps
  lies : liesB m n R ps = true
  feas : (sysOf m n R).feas (ptQ ps)
/-! ### most -/
structure WyOk (m n : Nat) (R : Mat) (t w : Nat → Int) : Prop where
  le : ∀ k, k < m → dot (R k) w n ≤ 0
  gt : 0 < dot t w n
/-- what most tells -/
structure MoOk (m n : Nat) (R : Mat) (t : Nat → Int) (s : Int × (Nat → Int)) (ps : List (Int × Int)) : Prop where
  sh : ShOk m n R t s
  ks : okSh s
  cn : CnOk m n R ps
  val : qd (rq t) (ptQ ps) n = qv (lsV m n R s)
end Lp

/-! The D-layer, part 55: the most. -/
namespace Dl
open PySem PySem.Spec
open PyProof.Rows L2
/-! ### the most -/
theorem atI_z (d : D) (ds : List D) : atI (d :: ds) 0 = some d := by rw [show (0 : Int) = ((0 : Nat) : Int) from rfl, atI_nn]; rfl
end Dl

/-! The D-layer, part 56: what the laws of the most draw and test. -/
namespace Dl
open PySem PySem.Spec
open PyProof.Rows L2
/-! ### the least of a list -/
def kMinL : KC := k1c fun d Q => onL (fun ds => asO (fun ns => 0 < ns.length ∧ ∀ m, m ∈ ns → (∀ y, y ∈ ns → m ≤ y) → Q (.int m)) (intsOf ds)) d
theorem cd_minL {X : Cx} (hc : X.calm = true) : CallD X (.builtin "min") kMinL := by
  refine ⟨_, cr_min hc, fun ds vs F H Qd Q e ps kk q => ?_⟩
  obtain ⟨d, rfl, q⟩ := k1c_inv q
  obtain ⟨v, rfl, pk⟩ := pks1 ps
  obtain ⟨xs, rfl, q⟩ := onL_inv q
  obtain ⟨ns, hn, q⟩ := asO_inv q
  obtain ⟨p, ws, rfl, h1, l1, r1⟩ := pk.lst e
  rw [intsOf_inv hn] at r1
  have z := r1.ints
  subst z
  exact ⟨p, ns, rfl, SqL.of h1, q.1, fun m hm hy => kk _ _ F H (.refl e) (.int _) (q.2 m hm hy)⟩
/-! ### points -/
structure okR9 (n : Nat) (r : Nat → Int) : Prop where
  lo : ∀ j, j < n → bnd 30 (r j)
  all : ∀ j, bnd 74 (r j)
end Dl

/-! Linear inequalities, part 14: what most tells, as the laws test it. -/
namespace Lp
open Dl
/-! ### points over one bottom -/
end Lp

/-! Rules, part 1: three methods that call one another; rules as trees. -/
namespace Dl
open PySem PySem.Spec
open PyProof.Rows L2
theorem tabI_ints (n : Nat) (F : Nat → Int) : (tabI n F).map D.int = tabD n F := by unfold tabI tabD; rw [List.map_map]; rfl
/-! ### rules -/
inductive Ru where
  | st (f : Nat → Int) (a d : Int)
  | sp (r : Ru) (lo hi : Int)
  | pa (w : Nat → Int) (r o : Ru)
abbrev stF (a b c : D) : List (Str × D) := [("numbers", a), ("add", b), ("divisor", c)]
abbrev spF (a b c : D) : List (Str × D) := [("rule", a), ("low", b), ("high", c)]
abbrev paF (a b c : D) : List (Str × D) := [("row", a), ("rule", b), ("other", c)]
def stI (CS : Addr) (n : Nat) (f : Nat → Int) (a d : Int) : D := .ins CS (stF (.lst (tabD n f)) (.int a) (.int d))
def ruD (CS CP CA : Addr) (n : Nat) : Ru → D
  | .st f a d => stI CS n f a d
  | .sp r lo hi => .ins CP (spF (ruD CS CP CA n r) (.int lo) (.int hi))
  | .pa w r o => .ins CA (paF (rowW (n + 1) w) (ruD CS CP CA n r) (ruD CS CP CA n o))
def Ru.dep : Ru → Nat
  | .st .. => 0
  | .sp r _ _ => r.dep + 1
  | .pa _ r o => max r.dep o.dep + 1
def Ru.cnt : Ru → Nat
  | .st .. => 1
  | .sp r _ _ => 3 * r.cnt
  | .pa _ r o => r.cnt + o.cnt
/-- rules of numbers that are not great -/
def Ru.ok : Ru → Prop
  | .st f a d => (∀ j, bnd 101 (f j)) ∧ bnd 101 a ∧ 1 ≤ d ∧ bnd 31 d
  | .sp r lo hi => r.ok ∧ bnd 101 lo ∧ bnd 101 hi ∧ lo ≤ hi
  | .pa w r o => (∀ j, bnd 101 (w j)) ∧ r.ok ∧ o.ok
abbrev Lf := (Nat → Int) × Int × Int
end Dl

/-! Rules, part 2: what the methods do. -/
namespace Dl
open PySem PySem.Spec
open PyProof.Rows L2

open Lp
structure RuK (K : PySem.W.Frag) (C_Straight C_Stopped C_Parted C_Rule : Addr) : Prop where
  f_Straight_numbers : FldOk K C_Straight "numbers"
  f_Straight_add : FldOk K C_Straight "add"
  f_Straight_divisor : FldOk K C_Straight "divisor"
  f_Stopped_rule : FldOk K C_Stopped "rule"
  f_Stopped_low : FldOk K C_Stopped "low"
  f_Stopped_high : FldOk K C_Stopped "high"
  f_Parted_row : FldOk K C_Parted "row"
  f_Parted_rule : FldOk K C_Parted "rule"
  f_Parted_other : FldOk K C_Parted "other"
  i_Straight : InsTy K C_Straight
  i_Stopped : InsTy K C_Stopped
  i_Parted : InsTy K C_Parted
  k_Straight_Rule : PySem.W.kitOne K (.ref C_Straight) (.ref C_Rule) = some true
  k_Stopped_Rule : PySem.W.kitOne K (.ref C_Stopped) (.ref C_Rule) = some true
  k_Parted_Rule : PySem.W.kitOne K (.ref C_Parted) (.ref C_Rule) = some true

abbrev g_Straight_init : DI := fun ds Q _ => ∃ (a b c : D), ds = [a, b, c] ∧ knD a ∧ Q (stF a b c)
abbrev g_Stopped_init : DI := fun ds Q _ => ∃ (a b c : D), ds = [a, b, c] ∧ Q (spF a b c)
abbrev g_Parted_init : DI := fun ds Q _ => ∃ (a b c : D), ds = [a, b, c] ∧ Q (paF a b c)
abbrev N_Straight_init : List Str := ["self", "numbers", "add", "divisor"]
def tb_Straight_init (K : PySem.W.Frag) : DS :=
  (dSq (dPutF K 0 "numbers" (dCall 1 [] g_own_list (dCons (dVar 1) dNil))) (dSq (dPutF K 0 "add" (dVar 2)) (dPutF K 0 "divisor" (dVar 3))))
theorem rd_Straight_init {K : PySem.W.Frag} {CS CP CA CR : Addr} (hK : RuK K CS CP CA CR) (x : Addr) (ds : List D) (Q : List (Str × D) → Prop) (E : EQ) (_ : ds.length + 1 = 4) (h : g_Straight_init ds Q E) : tb_Straight_init K (dEI (CS, x) Q E) (startI (CS, x) N_Straight_init ds) := by
  obtain ⟨a, b, c, rfl, ka, q⟩ := h
  have k0 := hK.f_Straight_numbers
  have k1 := hK.f_Straight_add
  have k2 := hK.f_Straight_divisor
  unfold tb_Straight_init dEI startI
  walk_at "go"
  refine ⟨_, rfl, ka, ?_⟩
  walk_at "go"
  first | (refine ⟨Nat.le_of_ble_eq_true rfl, ?_⟩; walk_at "go") | skip
  first | (refine ⟨Nat.le_of_ble_eq_true rfl, ?_⟩; walk_at "go") | skip
  exact q
abbrev N_Stopped_init : List Str := ["self", "rule", "low", "high"]
def tb_Stopped_init (K : PySem.W.Frag) : DS :=
  (dSq (dPutF K 0 "rule" (dVar 1)) (dSq (dPutF K 0 "low" (dVar 2)) (dPutF K 0 "high" (dVar 3))))
theorem rd_Stopped_init {K : PySem.W.Frag} {CS CP CA CR : Addr} (hK : RuK K CS CP CA CR) (x : Addr) (ds : List D) (Q : List (Str × D) → Prop) (E : EQ) (_ : ds.length + 1 = 4) (h : g_Stopped_init ds Q E) : tb_Stopped_init K (dEI (CP, x) Q E) (startI (CP, x) N_Stopped_init ds) := by
  obtain ⟨a, b, c, rfl, q⟩ := h
  have k0 := hK.f_Stopped_rule
  have k1 := hK.f_Stopped_low
  have k2 := hK.f_Stopped_high
  unfold tb_Stopped_init dEI startI
  walk_at "go"
  first | (refine ⟨Nat.le_of_ble_eq_true rfl, ?_⟩; walk_at "go") | skip
  first | (refine ⟨Nat.le_of_ble_eq_true rfl, ?_⟩; walk_at "go") | skip
  exact q
abbrev N_Parted_init : List Str := ["self", "row", "rule", "other"]
def tb_Parted_init (K : PySem.W.Frag) : DS :=
  (dSq (dPutF K 0 "row" (dVar 1)) (dSq (dPutF K 0 "rule" (dVar 2)) (dPutF K 0 "other" (dVar 3))))
theorem rd_Parted_init {K : PySem.W.Frag} {CS CP CA CR : Addr} (hK : RuK K CS CP CA CR) (x : Addr) (ds : List D) (Q : List (Str × D) → Prop) (E : EQ) (_ : ds.length + 1 = 4) (h : g_Parted_init ds Q E) : tb_Parted_init K (dEI (CA, x) Q E) (startI (CA, x) N_Parted_init ds) := by
  obtain ⟨a, b, c, rfl, q⟩ := h
  have k0 := hK.f_Parted_row
  have k1 := hK.f_Parted_rule
  have k2 := hK.f_Parted_other
  unfold tb_Parted_init dEI startI
  walk_at "go"
  first | (refine ⟨Nat.le_of_ble_eq_true rfl, ?_⟩; walk_at "go") | skip
  first | (refine ⟨Nat.le_of_ble_eq_true rfl, ?_⟩; walk_at "go") | skip
  exact q
/-! ### what a rule tells at a point -/
/-! ### the three methods of a rule, one promise -/
/-! ### pieces -/
abbrev Pc := List (Nat → Int) × Lf
def okLf (l : Lf) : Prop := (∀ j, bnd 101 (l.1 j)) ∧ bnd 101 l.2.1 ∧ 1 ≤ l.2.2 ∧ bnd 31 l.2.2
def okPc (k : Nat) (p : Pc) : Prop := p.1.length ≤ k ∧ (∀ r ∈ p.1, ∀ j, bnd 135 (r j)) ∧ okLf p.2
theorem okPc.mono {k m : Nat} {p : Pc} (h : okPc k p) (z : k ≤ m) : okPc m p := ⟨Nat.le_trans h.1 z, h.2⟩
/-! ### cut -/
end Dl

/-! Rules, part 3: what their laws draw. -/
namespace Dl
open PySem PySem.Spec
open PyProof.Rows L2


abbrev g_stream31 : DF := fun ds Q _ => ∃ (c : Int) (m : Nat), ds = [.int c, .int m] ∧ m ≤ 1000 ∧ ∀ X : Nat → Int, (∀ j, 0 ≤ X j ∧ X j < 2147483647) → Q (.lst (tabD m X))
abbrev N_stream31 : List Str := ["_law_cell", "_law_many", "_law_found", "_law_rest", "_law_k", "_law_number_here"]
def tb_stream31  : DS :=
  (dSq (dOwn 2 (dLstN dNil)) (dSq (dIf (dTest (dOp kGe (dVarP 0) (dOp kPow (dC (.int 10)) (dC (.int 30))))) (dSq (dSet 3 (dOp kSub (dVarP 0) (dOp kPow (dC (.int 10)) (dC (.int 30))))) (dSq (dFor (dRng1 (dVarP 1)) (gNm 4) (dSq (dApp 2 (dOp kMod (dVarP 3) (dC (.int 2147483647)))) (dSet 3 (dOp kDiv (dVarP 3) (dC (.int 2147483647)))))) (dFrz 2 (dRet (dVar 2))))) dNext) (dSq (dSet 5 (dOp kAdd (dOp kMod (dVarP 0) (dC (.int 2147483647))) (dC (.int 48271)))) (dSq (dFor (dRng1 (dOp kAdd (dVarP 1) (dC (.int 2)))) (gNm 4) (dSq (dSet 5 (dOp kMod (dOp kAdd (dOp kAdd (dOp kMul (dVarP 5) (dVarP 5)) (dOp kMul (dC (.int 48271)) (dVarP 5))) (dVarP 4)) (dC (.int 2147483647)))) (dApp 2 (dVar 5)))) (dRet (dSl (dVarP 2) (dPart (dC (.int 2))) dNoPart))))))

theorem s31_a {d : DE} {a b : Sl} {M : Nat} : ∀ (t k i : Nat) (F : Nat → Int) (rest : Int) (s4 : Sl), M ≤ 1000 → k + t = M → (∀ j, 0 ≤ F j ∧ F j < 2147483647) →
    (∀ (F : Nat → Int) (s3 s4 : Sl), (∀ j, 0 ≤ F j ∧ F j < 2147483647) → d.nx [a, b, .ow (tabD M F), s3, s4, .no]) →
    loopD (gNm 4) (dSq (dApp 2 (dOp kMod (dVarP 3) (dC (.int 2147483647)))) (dSet 3 (dOp kDiv (dVarP 3) (dC (.int 2147483647))))) d (irg i t) [a, b, .ow (tabD k F), .sh (.int rest), s4, .no]
  | 0, k, i, F, rest, s4, hM, hk, hF, h => by
    have e : k = M := by omega
    subst e
    exact lp_r0 (h F _ _ hF)
  | t + 1, k, i, F, rest, s4, hM, hk, hF, h => by
    refine lp_rs ?_
    walk_at "rd"
    walk_at "go"
    rw [tab_snoc]
    walk_at "go"
    refine s31_a t (k + 1) (i + 1) _ _ _ hM (by omega) (fun j => ?_) h
    by_cases hj : j = k
    · rw [if_pos hj]
      exact ⟨Int.fmod_nonneg_of_pos _ (by omega), Int.fmod_lt_of_pos _ (by omega)⟩
    · rw [if_neg hj]; exact hF j
theorem s31_b {d : DE} {a b s3 : Sl} {M : Nat} : ∀ (t k i : Nat) (F : Nat → Int) (x : Int) (s4 : Sl), M ≤ 2000 → i + t ≤ 2000 → k + t = M → (0 ≤ x ∧ x < 4294967296) → (∀ j, 0 ≤ F j ∧ F j < 2147483647) →
    (∀ (F : Nat → Int) (s4 s5 : Sl), (∀ j, 0 ≤ F j ∧ F j < 2147483647) → d.nx [a, b, .ow (tabD M F), s3, s4, s5]) →
    loopD (gNm 4) (dSq (dSet 5 (dOp kMod (dOp kAdd (dOp kAdd (dOp kMul (dVarP 5) (dVarP 5)) (dOp kMul (dC (.int 48271)) (dVarP 5))) (dVarP 4)) (dC (.int 2147483647)))) (dApp 2 (dVar 5))) d (irg i t) [a, b, .ow (tabD k F), s3, s4, .sh (.int x)]
  | 0, k, i, F, x, s4, hM, hi, hk, hx, hF, h => by
    have e : k = M := by omega
    subst e
    exact lp_r0 (h F _ _ hF)
  | t + 1, k, i, F, x, s4, hM, hi, hk, hx, hF, h => by
    refine lp_rs ?_
    walk_at "rd"
    walk_at "go"
    rw [tab_snoc]
    walk_at "go"
    have hp : (0 : Int) < 2147483647 := by omega
    have m1 := Int.fmod_nonneg_of_pos (x * x + 48271 * x + i) hp
    have m2 := Int.fmod_lt_of_pos (x * x + 48271 * x + i) hp
    refine s31_b t (k + 1) (i + 1) _ _ _ hM (by omega) (by omega) ⟨m1, by omega⟩ (fun j => ?_) h
    by_cases hj : j = k
    · rw [if_pos hj]; exact ⟨m1, by omega⟩
    · rw [if_neg hj]; exact hF j
theorem rd_stream31 (ds : List D) (Q E : EQ) (_ : ds.length = 2) (h : g_stream31 ds Q E) : tb_stream31 (dE Q E) (startD N_stream31 ds) := by
  obtain ⟨c, m, rfl, hm, q⟩ := h
  unfold tb_stream31 dE
  walk_at "go"
  have t0 : ∀ G : Nat → Int, ([] : List D) = tabD 0 G := fun _ => rfl
  by_cases hc : (1000000000000000000000000000000 : Int) ≤ c
  · rw [decide_eq_true hc]
    walk_at "go"
    rw [t0 (fun _ => 0), Int.toNat_natCast]
    refine s31_a (M := m) m 0 0 _ _ _ (by omega) (by omega) (fun _ => ⟨by omega, by omega⟩) fun F s3 s4 hF => ?_
    walk_at "rd"
    exact q F hF
  · rw [decide_eq_false hc]
    walk_at "go"
    rw [t0 (fun _ => 0), show ((m : Int) + 2).toNat = m + 2 by omega]
    have hp : (0 : Int) < 2147483647 := by omega
    have m1 := Int.fmod_nonneg_of_pos c hp
    have m2 := Int.fmod_lt_of_pos c hp
    refine s31_b (M := m + 2) (m + 2) 0 0 _ _ _ (by omega) (by omega) (by omega) ⟨by omega, by omega⟩ (fun _ => ⟨by omega, by omega⟩) fun F s4 s5 hF => ?_
    walk_at "rd"
    rw [cut_2]
    exact q _ fun j => hF _
/-! ### cells of the script, or of a part of it -/
abbrev g_cellL : DF := fun ds Q _ => ∃ (ns : List Int) (k : Nat) (d : D), ds = [d, .int k] ∧ (d = .frl (ns.map .int) ∨ d = .lst (ns.map .int)) ∧ Q (.int (ns.getD k 0))
abbrev N_cellL : List Str := N__law_cell_at
abbrev tb_cellL : DS := tb__law_cell_at
theorem rd_cellL (ds : List D) (Q E : EQ) (_ : ds.length = 2) (h : g_cellL ds Q E) : tb_cellL (dE Q E) (startD N_cellL ds) := by
  obtain ⟨ns, k, d, rfl, hd, q⟩ := h
  rw [List.getD_eq_getElem?_getD] at q
  unfold tb_cellL tb__law_cell_at dE
  rcases hd with rfl | rfl
  all_goals
    walk_at "rd"
    rw [List.length_map]
    by_cases hk : k < ns.length
    · rw [decide_eq_true (by omega)]
      walk_at "rd"
      rw [atI_nn, List.getElem?_map, List.getElem?_eq_getElem hk]
      rw [List.getElem?_eq_getElem hk] at q
      exact q
    · rw [decide_eq_false (by omega)]
      walk_at "rd"
      rw [List.getElem?_eq_none (by omega)] at q
      exact q
/-! ### numbers -/
/-! ### fractions -/
end Dl

/-! The D-layer, part 57: shares for a target, a point beyond. -/
namespace Dl
open PySem PySem.Spec
open PyProof.Rows L2
end Dl

/-! Linear inequalities, part 15: shares for a target, from part 57. -/
namespace Lp
open Dl
/-- shares that show a target -/
structure SfOk (m n : Nat) (R : Mat) (t : Nat → Int) (un : Int) (s : Int × (Nat → Int)) : Prop where
  n0 : 0 ≤ s.1
  nn : ∀ k, 0 ≤ s.2 k
  b0 : bnd 4000 s.1
  bn : ∀ k, bnd 7000 (s.2 k)
  eq : ∀ j, j < n → dot (fun i => R i j) s.2 m = s.1 * t j
  le : 0 < s.1 → dot (fun i => R i n) s.2 m ≤ s.1 * un
  lt : s.1 = 0 → dot (fun i => R i n) s.2 m < 0
end Lp

/-! The D-layer, part 58: rooms grown. -/
namespace Dl
open PySem PySem.Spec
open PyProof.Rows L2
/-! ### the worst pushes -/
/-! ### closed things -/
theorem okk_tabL' (k n : Nat) (F : Nat → Int) : (D.lst (tabD n F)).okk (k + 1) = true := by
  unfold D.okk
  exact okk_tab _ _ _
/-! ### what most tells, in short -/
/-- the least whole number not below -/
def cl (p : Int × Int) : Int := 0 - (0 - p.1).fdiv p.2
/-! ### the first room -/
/-! ### a bound behind a turn -/
def aheadT (n : Nat) (m : Md) (t : Nat → Int) : Nat → Int := fun j => if j < n then dot t (fun i => m.nexts i j) n else 0
/-- rows behind which most may be asked -/
structure okRs (n b : Nat) (rs : List (Nat → Int)) : Prop where
  n1 : 1 ≤ n
  n3 : n ≤ 3
  len : rs.length ≤ 13
  b1 : 1 ≤ b
  R : ∀ r ∈ rs, ∀ j, bnd b (r j)
  e : eb b n ≤ 1300
structure okBb (n b : Nat) (ps : List (Int × Int)) (m : Md) (rs : List (Nat → Int)) (t : Nat → Int) : Prop where
  rs : okRs n b (rs ++ m.rows)
  pl : ps.length ≤ 10
  pb : ∀ q ∈ ps, bnd 1000 q.1 ∧ bnd 1000 q.2
  md : okMd 1000 m
  dv : 1 ≤ m.div
  bt : ∀ j, bnd 1000 (t j)
  ba : ∀ j, bnd b (aheadT n m t j)
theorem tab_take {k n : Nat} (F : Nat → Int) (h : n ≤ k) : (tabD k F).take n = tabD n F := by
  unfold tabD
  rw [← List.map_take, List.take_range, Nat.min_eq_left h]
theorem tab_drop (n p : Nat) (F : Nat → Int) : (tabD (n + p) F).drop n = tabD p fun j => F (n + j) := by
  have e := tab_app n p F fun j => F (n + j)
  have e2 : tabD (n + p) (fun j => if j < n then F j else F (n + (j - n))) = tabD (n + p) F := tab_congr fun j _ => by
    by_cases h : j < n
    · rw [if_pos h]
    · rw [if_neg h, show n + (j - n) = j by omega]
  rw [e2] at e
  rw [← e, List.drop_append_of_le_length (by rw [tab_len]; exact Nat.le_refl _), List.drop_of_length_le (by rw [tab_len]; exact Nat.le_refl _)]
  rfl
theorem cut_mid (n p : Nat) (V : Nat → Int) : cut (tabD (n + p + 1) V) (some (n : Int)) (some (-1)) = tabD p fun j => V (n + j) := by
  unfold cut
  rw [HT.sIx_nat, tab_len, sIx_m1, Nat.min_eq_left (by omega), show n + p + 1 = n + (p + 1) from rfl, tab_drop, tab_take _ (by omega)]
  congr 1
  omega
/-! ### grown once -/
/-! ### grown -/
theorem okk_rowW (k w : Nat) (F : Nat → Int) : D.okk (k + 1) (rowW w F) = true := by
  unfold rowW D.okk
  exact okk_tab _ _ _
end Dl

/-! Linear inequalities, part 16: the most in a box. -/
namespace Lp
open Dl
/-- a side's bound, a side's row -/
def sdV (bs : List (Int × Int)) (k s : Nat) : Int := if s = 0 then (bs.getD k (0, 0)).1 else (bs.getD k (0, 0)).2
def sdR (n : Nat) (bs : List (Int × Int)) (k s : Nat) : Nat → Int := fun j => if j = n then (2 * (s : Int) - 1) * sdV bs k s else if j = k then 2 * (s : Int) - 1 else 0
/-- rows that are a box's sides, all of them -/
structure BoxRs (n : Nat) (bs : List (Int × Int)) (rs : List (Nat → Int)) : Prop where
  is : ∀ r ∈ rs, ∃ k s, k < n ∧ s < 2 ∧ ∀ j, j ≤ n → r j = sdR n bs k s j
  all : ∀ k s, k < n → s < 2 → ∃ r ∈ rs, ∀ j, j ≤ n → r j = sdR n bs k s j
section
variable {n : Nat} {bs : List (Int × Int)} {rs : List (Nat → Int)}
end
end Lp

/-! The D-layer, part 59: boxes and what comes behind a turn, as the laws reckon. -/
namespace Dl
open PySem PySem.Spec
open PyProof.Rows L2
/-! ### the lesser of two, the greatest of a list -/
def kMaxL : KC := k1c fun d Q => onL (fun ds => asO (fun ns => 0 < ns.length ∧ ∀ m, m ∈ ns → (∀ y, y ∈ ns → y ≤ m) → Q (.int m)) (intsOf ds)) d
theorem cd_maxL {X : Cx} (hc : X.calm = true) : CallD X (.builtin "max") kMaxL := by
  refine ⟨_, cr_max hc, fun ds vs F H Qd Q e ps kk q => ?_⟩
  obtain ⟨d, rfl, q⟩ := k1c_inv q
  obtain ⟨v, rfl, pk⟩ := pks1 ps
  obtain ⟨xs, rfl, q⟩ := onL_inv q
  obtain ⟨ns, hn, q⟩ := asO_inv q
  obtain ⟨p, ws, rfl, h1, l1, r1⟩ := pk.lst e
  rw [intsOf_inv hn] at r1
  have z := r1.ints
  subst z
  exact ⟨p, ns, rfl, SqL.of h1, q.1, fun m hm hy => kk _ _ F H (.refl e) (.int _) (q.2 m hm hy)⟩
/-! ### the most of numbers in a box -/
/-! ### hulls -/
/-! ### what comes behind a turn -/
def upd (g : Int → Int → Int) (o : Option Int) (v : Int) : Option Int := some (match o with | none => v | some h => g h v)
end Dl

namespace K92
open PySem PySem.Spec
open PyProof.Rows L2 Dl
def topS (i : Nat) : Stmt := PySem.Challenge.pw_steadyhand_k92_rules_claims_things_as_te.main.body.getD i (.Pass ⟨0, 0, 0, 0⟩)
structure RsK (K : PySem.W.Frag) (C_Straight C_Stopped C_Parted : Addr) : Prop where
  k_Straight_Straight : PySem.W.kitOne K (.ref C_Straight) (.ref C_Straight) = some true
  k_Stopped_Straight : PySem.W.kitOne K (.ref C_Stopped) (.ref C_Straight) = some false
  k_Stopped_Stopped : PySem.W.kitOne K (.ref C_Stopped) (.ref C_Stopped) = some true
  k_Parted_Straight : PySem.W.kitOne K (.ref C_Parted) (.ref C_Straight) = some false
  k_Parted_Stopped : PySem.W.kitOne K (.ref C_Parted) (.ref C_Stopped) = some false
  k_Parted_Parted : PySem.W.kitOne K (.ref C_Parted) (.ref C_Parted) = some true
structure ScK (K : PySem.W.Frag) (C_Settles C_Comes C_Claim : Addr) : Prop where
  f_Settles_start : FldOk K C_Settles "start"
  f_Settles_rows : FldOk K C_Settles "rows"
  f_Settles_turn : FldOk K C_Settles "turn"
  f_Comes_start : FldOk K C_Comes "start"
  f_Comes_goal : FldOk K C_Comes "goal"
  f_Comes_turns : FldOk K C_Comes "turns"
  i_Settles : InsTy K C_Settles
  i_Comes : InsTy K C_Comes
  k_Settles_Settles : PySem.W.kitOne K (.ref C_Settles) (.ref C_Settles) = some true
  k_Settles_Comes : PySem.W.kitOne K (.ref C_Settles) (.ref C_Comes) = some false
  k_Settles_Claim : PySem.W.kitOne K (.ref C_Settles) (.ref C_Claim) = some true
  k_Comes_Comes : PySem.W.kitOne K (.ref C_Comes) (.ref C_Comes) = some true
  k_Comes_Settles : PySem.W.kitOne K (.ref C_Comes) (.ref C_Settles) = some false
structure TtK (K : PySem.W.Frag) (C_Thing : Addr) : Prop where
  k_Thing_Thing : PySem.W.kitOne K (.ref C_Thing) (.ref C_Thing) = some true
/-! ### rules -/
def nd : Ru → Nat
  | .st .. => 1
  | .sp r _ _ => nd r + 1
  | .pa _ r o => nd r + nd o + 1
def okR : Ru → Prop
  | .st f a d => (∀ j, okN (f j)) ∧ okN a ∧ okN d
  | .sp r lo hi => okR r ∧ okN lo ∧ okN hi
  | .pa w r o => (∀ j, okN (w j)) ∧ okR r ∧ okR o
def trD (n : Nat) : Ru → D
  | .st f a d => .tup [.str "straight", .lst (tabD n f), .int a, .int d]
  | .sp r lo hi => .tup [.str "stopped", trD n r, .int lo, .int hi]
  | .pa w r o => .tup [.str "parted", rowW (n + 1) w, trD n r, trD n o]
def wordsR (n : Nat) : Ru → List Str
  | .st f a d => Str.ofString "straight" :: (tabI n f ++ [a, d]).map numS
  | .sp r lo hi => Str.ofString "stopped" :: numS lo :: numS hi :: wordsR n r
  | .pa w r o => Str.ofString "parted" :: ((tabI (n + 1) w).map numS ++ (wordsR n r ++ wordsR n o))
def ruleS (n : Nat) (r : Ru) : Str := Txt.join (Str.ofString " ") (wordsR n r)
abbrev g__law_words : DF := g_show_numbers
abbrev g_showRJ (CS CP CA : Addr) (j : Nat) : DF := fun ds Q _ => ∃ (n : Nat) (r : Ru), ds = [ruD CS CP CA n r] ∧ n ≤ 3 ∧ okR r ∧ nd r ≤ 20 ∧ r.dep ≤ j ∧ Q (.str (ruleS n r))
def g_showRP (CS CP CA : Addr) : Nat → DF
  | 0 => fun _ _ _ => False
  | j + 1 => g_showRJ CS CP CA j
abbrev g_atJ (CS CP CA : Addr) (j : Nat) : DF := fun ds Q _ => ∃ (n : Nat) (r : Ru) (rest : List Str), ds = [.lst ((wordsR n r ++ rest).map .str), .int n] ∧ n ≤ 3 ∧ okR r ∧ r.dep ≤ j ∧ Q (.tup [ruD CS CP CA n r, .lst (rest.map .str)])
def g_atP (CS CP CA : Addr) : Nat → DF
  | 0 => fun _ _ _ => False
  | j + 1 => g_atJ CS CP CA j
abbrev g_read_rule (CS CP CA : Addr) : DF := fun ds Q _ => ∃ (n : Nat) (r : Ru), ds = [.str (ruleS n r), .int n] ∧ n ≤ 3 ∧ okR r ∧ nd r ≤ 20 ∧ r.dep ≤ 8 ∧ Q (ruD CS CP CA n r)
abbrev g_ruleJ (CS CP CA : Addr) (j : Nat) : DF := fun ds Q _ => ∃ (n : Nat) (r : Ru), ds = [trD n r] ∧ r.dep ≤ j ∧ Q (ruD CS CP CA n r)
def g_ruleP (CS CP CA : Addr) : Nat → DF
  | 0 => fun _ _ _ => False
  | j + 1 => g_ruleJ CS CP CA j
abbrev g_textJ (j : Nat) : DF := fun ds Q _ => ∃ (n : Nat) (r : Ru), ds = [trD n r] ∧ n ≤ 3 ∧ okR r ∧ nd r ≤ 20 ∧ r.dep ≤ j ∧ Q (.str (ruleS n r))
def g_textP : Nat → DF
  | 0 => fun _ _ _ => False
  | j + 1 => g_textJ j
abbrev g_sameJ (CS CP CA : Addr) (j : Nat) : DF := fun ds Q _ => ∃ (n : Nat) (r : Ru), ds = [ruD CS CP CA n r, trD n r] ∧ r.dep ≤ j ∧ Q (.bl true)
def g_sameP (CS CP CA : Addr) : Nat → DF
  | 0 => fun _ _ _ => False
  | j + 1 => g_sameJ CS CP CA j
abbrev g__law_number : DF := fun ds Q _ => ∃ x : Int, ds = [.int x] ∧ 0 ≤ x ∧ x < 2147483647 ∧ ∀ z : Int, okN z → Q (.int z)
abbrev g__law_leaf : DF := fun ds Q _ => ∃ (c : Int) (n : Nat), ds = [.int c, .int n] ∧ 1 ≤ n ∧ n ≤ 3 ∧ ∀ (f : Nat → Int) (a d : Int), (∀ j, okN (f j)) → okN a → okN d → Q (trD n (.st f a d))
abbrev g__law_tree : DF := fun ds Q _ => ∃ (ns : List Int) (n : Nat), ds = [.lst (ns.map .int), .int n] ∧ 1 ≤ n ∧ n ≤ 3 ∧ ∀ r : Ru, okR r → nd r ≤ 20 → r.dep ≤ 5 → Q (trD n r)
/-! ### claims -/
def tups (rs : List (List Int)) : D := .lst (rs.map tupI)
abbrev stlF (a b c : D) : List (Str × D) := [("start", a), ("rows", b), ("turn", c)]
abbrev cmcF (a b c : D) : List (Str × D) := [("start", a), ("goal", b), ("turns", c)]
abbrev g_Settles_init : DI := fun ds Q _ => ∃ (xs ys : List D) (t : D), ds = [.lst xs, .lst ys, t] ∧ Q (stlF (.lst xs) (.lst ys) t)
abbrev g_Comes_init : DI := fun ds Q _ => ∃ (xs ys : List D) (t : D), ds = [.lst xs, .lst ys, t] ∧ Q (cmcF (.lst xs) (.lst ys) t)
/-- a claim's texts: the word, the rooms -/
def clmS (wd : Str) (t : Int) (r s : List (List Int)) : Str := Txt.join (Str.ofString " | ") [wd ++ Str.ofString " " ++ numS t, roomS r, roomS s]
def okRw (n : Nat) (rs : List (List Int)) : Prop := rs.length ≤ 5 ∧ ∀ r ∈ rs, r.length = n + 1 ∧ ∀ z ∈ r, okN z
abbrev g_read_room : DF := fun ds Q _ => ∃ (rs : List (List Int)) (n : Nat), ds = [.str (roomS rs), .int n] ∧ n ≤ 9 ∧ okRw n rs ∧ Q (tups rs)
def clmD (CS CC : Addr) (k : Bool) (t : Int) (r s : List (List Int)) : D := if k then .ins CS (stlF (tups r) (tups s) (.int t)) else .ins CC (cmcF (tups r) (tups s) (.int t))
def wdS (k : Bool) : Str := if k then Str.ofString "settles" else Str.ofString "comes"
abbrev g_show_claim (CS CC : Addr) : DF := fun ds Q _ => ∃ (k : Bool) (n : Nat) (t : Int) (r s : List (List Int)), ds = [clmD CS CC k t r s] ∧ n ≤ 3 ∧ okRw n r ∧ okRw n s ∧ okN t ∧ Q (.str (clmS (wdS k) t r s))
abbrev g_claim_of (CS CC : Addr) : DF := fun ds Q _ => ∃ (k : Bool) (n : Nat) (t : Int) (r s : List (List Int)), ds = [.lst [.str (wdS k ++ Str.ofString " " ++ numS t), .str (roomS r), .str (roomS s)], .int n] ∧ n ≤ 3 ∧ okRw n r ∧ okRw n s ∧ okN t ∧ 0 ≤ t ∧ Q (clmD CS CC k t r s)
abbrev g_read_claim (CS CC : Addr) : DF := fun ds Q _ => ∃ (k : Bool) (n : Nat) (t : Int) (r s : List (List Int)), ds = [.str (clmS (wdS k) t r s), .int n] ∧ n ≤ 3 ∧ okRw n r ∧ okRw n s ∧ okN t ∧ 0 ≤ t ∧ Q (clmD CS CC k t r s)
abbrev g__law_rows : DF := fun ds Q _ => ∃ (c : Int) (n m : Nat), ds = [.int c, .int n, .int m] ∧ 1 ≤ n ∧ n ≤ 3 ∧ m ≤ 5 ∧ ∀ rs : List (List Int), rs.length = m → (∀ r ∈ rs, r.length = n + 1 ∧ ∀ z ∈ r, okN z) → Q (tups rs)
abbrev g__law_room_text : DF := fun ds Q _ => ∃ (n : Nat) (rs : List (List Int)), ds = [tups rs] ∧ n ≤ 3 ∧ okRw n rs ∧ Q (.str (roomS rs))
abbrev g__law_claims : DF := fun ds Q _ => ∃ (a : List Int) (n : Nat), ds = [.frl (a.map .int), .int n] ∧ 1 ≤ n ∧ n ≤ 3 ∧ Q (.bl true)
/-! ### things -/
abbrev Ln := Str × List Int
def lnW (l : Ln) : List Str := l.1 :: l.2.map numS
def lnS (l : Ln) : Str := Txt.join (Str.ofString " ") (lnW l)
def lnD (l : Ln) : D := .lst ((lnW l).map .str)
def nxI (n p : Nat) (m : Md) (i : Nat) : List Int := tabI n (m.nexts i) ++ [m.steer i] ++ tabI p (m.push i) ++ [m.add i]
def rwL (n : Nat) (m : Md) : List Ln := m.rows.map fun r => (Str.ofString "row", tabI (n + 1) r)
def nxL (n p : Nat) (m : Md) : List Ln := (List.range n).map fun i => (Str.ofString "next", nxI n p m i)
def mdL (n p : Nat) (m : Md) : List Ln := (Str.ofString "mode", [m.div]) :: (rwL n m ++ nxL n p m)
def psL (ps : List (Int × Int)) : List Ln := ps.map fun q => (Str.ofString "push", [q.1, q.2])
def thL (n : Nat) (ps : List (Int × Int)) (ms : List Md) : List Ln := (Str.ofString "numbers", [(n : Int)]) :: (psL ps ++ ms.flatMap (mdL n ps.length))
def lnsS (ls : List Ln) : Str := Txt.join (Str.ofString "\n") (ls.map lnS)
structure okM (m : Md) : Prop where
  few : m.rows.length ≤ 3
  rows : ∀ r ∈ m.rows, ∀ j, okN (r j)
  nexts : ∀ i j, okN (m.nexts i j)
  steer : ∀ j, okN (m.steer j)
  push : ∀ i j, okN (m.push i j)
  add : ∀ j, okN (m.add j)
  d1 : 1 ≤ m.div
  dv : okN m.div
structure okTh (n : Nat) (ps : List (Int × Int)) (ms : List Md) : Prop where
  n1 : 1 ≤ n
  n3 : n ≤ 3
  p6 : ps.length ≤ 6
  pp : ∀ q ∈ ps, q.1 ≤ q.2 ∧ okN q.1 ∧ okN q.2
  m1 : ms ≠ []
  m4 : ms.length ≤ 4
  mm : ∀ m ∈ ms, okM m
def partsM (n p : Nat) (m : Md) : D := .lst [.lst (m.rows.map (rowW (n + 1))), .lst (lstL n n m.nexts), .lst (tabD n m.steer), .lst (lstL n p m.push), .lst (tabD n m.add), .int m.div]
abbrev g_rows_of_mode (CM : Addr) : DF := fun ds Q _ => ∃ (n p : Nat) (m : Md), ds = [mdI CM n p m] ∧ n ≤ 3 ∧ p ≤ 6 ∧ okM m ∧ Q (.lst ((mdL n p m).map fun l => .str (lnS l)))
abbrev g_show_thing (CM CT : Addr) : DF := fun ds Q _ => ∃ (n : Nat) (ps : List (Int × Int)) (ms : List Md), ds = [thI CT n ps (ms.map (mdI CM n ps.length))] ∧ okTh n ps ms ∧ Q (.str (lnsS (thL n ps ms)))
abbrev g_headed : DF := fun ds Q _ => ∃ (a b c : List Ln) (w : Str), ds = [.lst ((a ++ (b ++ c)).map lnD), .int a.length, .str w] ∧ (a ++ (b ++ c)).length ≤ 200 ∧ (∀ l ∈ b, l.1 = w) ∧ (∀ l, c.head? = some l → l.1 ≠ w) ∧ Q (.lst (b.map fun l => .lst ((l.2.map numS).map .str)))
abbrev g_read_mode (CM : Addr) : DF := fun ds Q _ => ∃ (n p : Nat) (m : Md) (a c : List Ln), ds = [.lst ((a ++ (mdL n p m ++ c)).map lnD), .int a.length, .int n, .int p] ∧ 1 ≤ n ∧ n ≤ 3 ∧ p ≤ 6 ∧ okM m ∧ (a ++ (mdL n p m ++ c)).length ≤ 200 ∧ (∀ l, c.head? = some l → l.1 = Str.ofString "mode") ∧ Q (.tup [mdI CM n p m, .int ((a.length + (mdL n p m).length : Nat) : Int)])
abbrev g_read_thing (CM CT : Addr) : DF := fun ds Q _ => ∃ (n : Nat) (ps : List (Int × Int)) (ms : List Md), ds = [.str (lnsS (thL n ps ms))] ∧ okTh n ps ms ∧ Q (thI CT n ps (ms.map (mdI CM n ps.length)))
abbrev g__law_parts : DF := fun ds Q _ => ∃ (c : Int) (n p : Nat), ds = [.int c, .int n, .int p] ∧ 1 ≤ n ∧ n ≤ 3 ∧ p ≤ 6 ∧ ∀ m : Md, okM m → Q (partsM n p m)
abbrev g__law_thing_text : DF := fun ds Q _ => ∃ (n : Nat) (ps : List (Int × Int)) (ms : List Md), ds = [.int n, .lst (ps.map pD), .lst (ms.map (partsM n ps.length))] ∧ okTh n ps ms ∧ Q (.str (lnsS (thL n ps ms)))
abbrev g__law_things : DF := fun ds Q _ => ∃ (a : List Int) (n : Nat), ds = [.frl (a.map .int), .int n] ∧ 1 ≤ n ∧ n ≤ 3 ∧ Q (.bl true)
/-- what the top leaves: the built-in names are no names of the module, the defs and classes stand -/
structure Txt (K : PySem.W.Frag) (mg : Str → Option Value) (a_Settles_init a_Comes_init a_is_whole a_own a_own_list a_are_wholes a_is_row a_is_room a_is_table a_Mode_init a_is_mode a_is_push a_Thing_init a_Thing_pushes a_Thing_modes a_Straight_init a_Stopped_init a_Parted_init a_words_in a_read_number a_read_numbers a_show_numbers a_show_room a_read_room a_show_rule a_rule_at a_read_rule a_show_claim a_claim_of a_read_claim a_rows_of_mode a_show_thing a_headed a_read_mode a_read_thing a__law_cell_at a__law_stream a__law_number a__law_words a__law_leaf a__law_tree a__law_rule a__law_rule_text a__law_same_rule a__law_rows a__law_room_text a__law_claims a__law_parts a__law_thing_text a__law_things a_law C_BadThing C_TooMany C_Claim C_Settles C_Comes C_Mode C_Thing C_Rule C_Straight C_Stopped C_Parted : Addr) : Prop where
  b_abs : mg "abs" = none
  b_all : mg "all" = none
  b_bool : mg "bool" = none
  b_int : mg "int" = none
  b_isinstance : mg "isinstance" = none
  b_len : mg "len" = none
  b_list : mg "list" = none
  b_max : mg "max" = none
  b_min : mg "min" = none
  b_range : mg "range" = none
  b_str : mg "str" = none
  b_tuple : mg "tuple" = none
  f_is_whole : mg "is_whole" = some (.ref a_is_whole)
  f_own : mg "own" = some (.ref a_own)
  f_own_list : mg "own_list" = some (.ref a_own_list)
  f_are_wholes : mg "are_wholes" = some (.ref a_are_wholes)
  f_is_row : mg "is_row" = some (.ref a_is_row)
  f_is_room : mg "is_room" = some (.ref a_is_room)
  f_is_table : mg "is_table" = some (.ref a_is_table)
  f_is_mode : mg "is_mode" = some (.ref a_is_mode)
  f_is_push : mg "is_push" = some (.ref a_is_push)
  f_words_in : mg "words_in" = some (.ref a_words_in)
  f_read_number : mg "read_number" = some (.ref a_read_number)
  f_read_numbers : mg "read_numbers" = some (.ref a_read_numbers)
  f_show_numbers : mg "show_numbers" = some (.ref a_show_numbers)
  f_show_room : mg "show_room" = some (.ref a_show_room)
  f_read_room : mg "read_room" = some (.ref a_read_room)
  f_show_rule : mg "show_rule" = some (.ref a_show_rule)
  f_rule_at : mg "rule_at" = some (.ref a_rule_at)
  f_read_rule : mg "read_rule" = some (.ref a_read_rule)
  f_show_claim : mg "show_claim" = some (.ref a_show_claim)
  f_claim_of : mg "claim_of" = some (.ref a_claim_of)
  f_read_claim : mg "read_claim" = some (.ref a_read_claim)
  f_rows_of_mode : mg "rows_of_mode" = some (.ref a_rows_of_mode)
  f_show_thing : mg "show_thing" = some (.ref a_show_thing)
  f_headed : mg "headed" = some (.ref a_headed)
  f_read_mode : mg "read_mode" = some (.ref a_read_mode)
  f_read_thing : mg "read_thing" = some (.ref a_read_thing)
  f__law_cell_at : mg "_law_cell_at" = some (.ref a__law_cell_at)
  f__law_stream : mg "_law_stream" = some (.ref a__law_stream)
  f__law_number : mg "_law_number" = some (.ref a__law_number)
  f__law_words : mg "_law_words" = some (.ref a__law_words)
  f__law_leaf : mg "_law_leaf" = some (.ref a__law_leaf)
  f__law_tree : mg "_law_tree" = some (.ref a__law_tree)
  f__law_rule : mg "_law_rule" = some (.ref a__law_rule)
  f__law_rule_text : mg "_law_rule_text" = some (.ref a__law_rule_text)
  f__law_same_rule : mg "_law_same_rule" = some (.ref a__law_same_rule)
  f__law_rows : mg "_law_rows" = some (.ref a__law_rows)
  f__law_room_text : mg "_law_room_text" = some (.ref a__law_room_text)
  f__law_claims : mg "_law_claims" = some (.ref a__law_claims)
  f__law_parts : mg "_law_parts" = some (.ref a__law_parts)
  f__law_thing_text : mg "_law_thing_text" = some (.ref a__law_thing_text)
  f__law_things : mg "_law_things" = some (.ref a__law_things)
  f_law : mg "law" = some (.ref a_law)
  g_FIGURES : ∃ t, mg "FIGURES" = some (.str "0123456789" t)
  g_MOST_FIGURES : ∃ t, mg "MOST_FIGURES" = some (.int 60 t)
  g_MOST_MODES : ∃ t, mg "MOST_MODES" = some (.int 40 t)
  g_MOST_NUMBERS : ∃ t, mg "MOST_NUMBERS" = some (.int 3 t)
  g_MOST_PUSHES : ∃ t, mg "MOST_PUSHES" = some (.int 6 t)
  c_BadThing : mg "BadThing" = some (.ref C_BadThing)
  c_Claim : mg "Claim" = some (.ref C_Claim)
  c_Comes : mg "Comes" = some (.ref C_Comes)
  c_Mode : mg "Mode" = some (.ref C_Mode)
  c_Parted : mg "Parted" = some (.ref C_Parted)
  c_Rule : mg "Rule" = some (.ref C_Rule)
  c_Settles : mg "Settles" = some (.ref C_Settles)
  c_Stopped : mg "Stopped" = some (.ref C_Stopped)
  c_Straight : mg "Straight" = some (.ref C_Straight)
  c_Thing : mg "Thing" = some (.ref C_Thing)
  c_TooMany : mg "TooMany" = some (.ref C_TooMany)
  l_Thing : Cls K C_Thing
  m_Thing_modes : Meth K C_Thing "modes" a_Thing_modes
  m_Thing_pushes : Meth K C_Thing "pushes" a_Thing_pushes
  x_BadThing : ExCls K mg "BadThing" C_BadThing
  x_TooMany : ExCls K mg "TooMany" C_TooMany
  kf_ThK : ThK K C_Mode C_Thing
  kf_RuK : RuK K C_Straight C_Stopped C_Parted C_Rule
  kf_RsK : RsK K C_Straight C_Stopped C_Parted
  kf_ScK : ScK K C_Settles C_Comes C_Claim
  kf_TtK : TtK K C_Thing

abbrev g__law_stream : DF := g_stream31
abbrev g__law_cell_at : DF := g_cellL
section
variable {P : Program} {w : World} {K : PySem.W.Frag} {mg : Str → Option Value} {base : Heap} {a_Settles_init a_Comes_init a_is_whole a_own a_own_list a_are_wholes a_is_row a_is_room a_is_table a_Mode_init a_is_mode a_is_push a_Thing_init a_Thing_pushes a_Thing_modes a_Straight_init a_Stopped_init a_Parted_init a_words_in a_read_number a_read_numbers a_show_numbers a_show_room a_read_room a_show_rule a_rule_at a_read_rule a_show_claim a_claim_of a_read_claim a_rows_of_mode a_show_thing a_headed a_read_mode a_read_thing a__law_cell_at a__law_stream a__law_number a__law_words a__law_leaf a__law_tree a__law_rule a__law_rule_text a__law_same_rule a__law_rows a__law_room_text a__law_claims a__law_parts a__law_thing_text a__law_things a_law C_BadThing C_TooMany C_Claim C_Settles C_Comes C_Mode C_Thing C_Rule C_Straight C_Stopped C_Parted : Addr}
/-! ### Settles_init -/
abbrev s_Settles_init : Stmt := inClass (topS 9) 0
abbrev N_Settles_init : List Str := ["self", "start", "rows", "turn"]
theorem sc_Settles_init : FnScope N_Settles_init ["self", "start", "rows", "turn"] (defScope s_Settles_init) := ⟨rfl, rfl, rfl, by decide +kernel, rfl, by decide +kernel, by decide +kernel⟩
def tb_Settles_init (K : PySem.W.Frag) : DS :=
  (dSq (dPutF K 0 "start" (dCB kList (dCons (dVarP 1) dNil))) (dSq (dPutF K 0 "rows" (dCB kList (dCons (dVarP 2) dNil))) (dPutF K 0 "turn" (dVar 3))))
theorem der_Settles_init (T : Txt K mg a_Settles_init a_Comes_init a_is_whole a_own a_own_list a_are_wholes a_is_row a_is_room a_is_table a_Mode_init a_is_mode a_is_push a_Thing_init a_Thing_pushes a_Thing_modes a_Straight_init a_Stopped_init a_Parted_init a_words_in a_read_number a_read_numbers a_show_numbers a_show_room a_read_room a_show_rule a_rule_at a_read_rule a_show_claim a_claim_of a_read_claim a_rows_of_mode a_show_thing a_headed a_read_mode a_read_thing a__law_cell_at a__law_stream a__law_number a__law_words a__law_leaf a__law_tree a__law_rule a__law_rule_text a__law_same_rule a__law_rows a__law_room_text a__law_claims a__law_parts a__law_thing_text a__law_things a_law C_BadThing C_TooMany C_Claim C_Settles C_Comes C_Mode C_Thing C_Rule C_Straight C_Stopped C_Parted) 
    {f : Addr} {cdv : Value} {A : Around} {outer : List Env} {s : Shared} {H : Hp} {E : XK} (hr : Room 0 (A.deeper (envOfC "Settles.__init__" (defScope s_Settles_init) s.heap.objs.size f cdv))) :
    RSs (cxOf (L2.CX P w) P w K mg base N_Settles_init "Settles.__init__" (defScope s_Settles_init) f cdv A outer s H E) (WF E) (defBody s_Settles_init) (tb_Settles_init K) :=
  (rss_cons (rs_fldS (K := K) 0 (re_callTy cd_list T.b_list (rpa_cons (rp_var 1) rpa_nil))) (rss_cons (rs_fldS (K := K) 0 (re_callTy cd_list T.b_list (rpa_cons (rp_var 2) rpa_nil))) (rss_one (rs_fldS (K := K) 0 (re_var 3)))))
/-! ### Comes_init -/
abbrev s_Comes_init : Stmt := inClass (topS 10) 0
abbrev N_Comes_init : List Str := ["self", "start", "goal", "turns"]
theorem sc_Comes_init : FnScope N_Comes_init ["self", "start", "goal", "turns"] (defScope s_Comes_init) := ⟨rfl, rfl, rfl, by decide +kernel, rfl, by decide +kernel, by decide +kernel⟩
def tb_Comes_init (K : PySem.W.Frag) : DS :=
  (dSq (dPutF K 0 "start" (dCB kList (dCons (dVarP 1) dNil))) (dSq (dPutF K 0 "goal" (dCB kList (dCons (dVarP 2) dNil))) (dPutF K 0 "turns" (dVar 3))))
theorem der_Comes_init (T : Txt K mg a_Settles_init a_Comes_init a_is_whole a_own a_own_list a_are_wholes a_is_row a_is_room a_is_table a_Mode_init a_is_mode a_is_push a_Thing_init a_Thing_pushes a_Thing_modes a_Straight_init a_Stopped_init a_Parted_init a_words_in a_read_number a_read_numbers a_show_numbers a_show_room a_read_room a_show_rule a_rule_at a_read_rule a_show_claim a_claim_of a_read_claim a_rows_of_mode a_show_thing a_headed a_read_mode a_read_thing a__law_cell_at a__law_stream a__law_number a__law_words a__law_leaf a__law_tree a__law_rule a__law_rule_text a__law_same_rule a__law_rows a__law_room_text a__law_claims a__law_parts a__law_thing_text a__law_things a_law C_BadThing C_TooMany C_Claim C_Settles C_Comes C_Mode C_Thing C_Rule C_Straight C_Stopped C_Parted) 
    {f : Addr} {cdv : Value} {A : Around} {outer : List Env} {s : Shared} {H : Hp} {E : XK} (hr : Room 0 (A.deeper (envOfC "Comes.__init__" (defScope s_Comes_init) s.heap.objs.size f cdv))) :
    RSs (cxOf (L2.CX P w) P w K mg base N_Comes_init "Comes.__init__" (defScope s_Comes_init) f cdv A outer s H E) (WF E) (defBody s_Comes_init) (tb_Comes_init K) :=
  (rss_cons (rs_fldS (K := K) 0 (re_callTy cd_list T.b_list (rpa_cons (rp_var 1) rpa_nil))) (rss_cons (rs_fldS (K := K) 0 (re_callTy cd_list T.b_list (rpa_cons (rp_var 2) rpa_nil))) (rss_one (rs_fldS (K := K) 0 (re_var 3)))))
/-! ### is_whole -/
abbrev s_is_whole : Stmt := topS 12
theorem sc_is_whole : FnScope N_is_whole ["thing"] (defScope s_is_whole) := ⟨rfl, rfl, rfl, by decide +kernel, rfl, by decide +kernel, by decide +kernel⟩
theorem der_is_whole (T : Txt K mg a_Settles_init a_Comes_init a_is_whole a_own a_own_list a_are_wholes a_is_row a_is_room a_is_table a_Mode_init a_is_mode a_is_push a_Thing_init a_Thing_pushes a_Thing_modes a_Straight_init a_Stopped_init a_Parted_init a_words_in a_read_number a_read_numbers a_show_numbers a_show_room a_read_room a_show_rule a_rule_at a_read_rule a_show_claim a_claim_of a_read_claim a_rows_of_mode a_show_thing a_headed a_read_mode a_read_thing a__law_cell_at a__law_stream a__law_number a__law_words a__law_leaf a__law_tree a__law_rule a__law_rule_text a__law_same_rule a__law_rows a__law_room_text a__law_claims a__law_parts a__law_thing_text a__law_things a_law C_BadThing C_TooMany C_Claim C_Settles C_Comes C_Mode C_Thing C_Rule C_Straight C_Stopped C_Parted) 
    {f : Addr} {cdv : Value} {A : Around} {outer : List Env} {s : Shared} {H : Hp} {E : XK} (hr : Room 0 (A.deeper (envOfC "is_whole" (defScope s_is_whole) s.heap.objs.size f cdv))) :
    RSs (cxOf (L2.CX P w) P w K mg base N_is_whole "is_whole" (defScope s_is_whole) f cdv A outer s H E) (WF E) (defBody s_is_whole) (tb_is_whole K) :=
  (rss_one (rs_ret (re_and (RE.p (re_callB (cd_isi (K := K)) T.b_isinstance (rpa_cons (rp_var 0) (rpa_cons (RE.p (re_ty T.b_int (by decide +kernel))) rpa_nil)))) (re_one (re_not (RE.p (re_callB (cd_isi (K := K)) T.b_isinstance (rpa_cons (rp_var 0) (rpa_cons (RE.p (re_ty T.b_bool (by decide +kernel))) rpa_nil)))))))))
/-! ### own -/
abbrev s_own : Stmt := topS 25
theorem sc_own : FnScope N_own ["thing"] (defScope s_own) := ⟨rfl, rfl, rfl, by decide +kernel, rfl, by decide +kernel, by decide +kernel⟩
theorem der_own (T : Txt K mg a_Settles_init a_Comes_init a_is_whole a_own a_own_list a_are_wholes a_is_row a_is_room a_is_table a_Mode_init a_is_mode a_is_push a_Thing_init a_Thing_pushes a_Thing_modes a_Straight_init a_Stopped_init a_Parted_init a_words_in a_read_number a_read_numbers a_show_numbers a_show_room a_read_room a_show_rule a_rule_at a_read_rule a_show_claim a_claim_of a_read_claim a_rows_of_mode a_show_thing a_headed a_read_mode a_read_thing a__law_cell_at a__law_stream a__law_number a__law_words a__law_leaf a__law_tree a__law_rule a__law_rule_text a__law_same_rule a__law_rows a__law_room_text a__law_claims a__law_parts a__law_thing_text a__law_things a_law C_BadThing C_TooMany C_Claim C_Settles C_Comes C_Mode C_Thing C_Rule C_Straight C_Stopped C_Parted) (D_own_list : FD P w K mg base 1 a_own_list 1 [] g_own_list)
    {f : Addr} {cdv : Value} {A : Around} {outer : List Env} {s : Shared} {H : Hp} {E : XK} (hr : Room 1 (A.deeper (envOfC "own" (defScope s_own) s.heap.objs.size f cdv))) :
    RSs (cxOf (L2.CX P w) P w K mg base N_own "own" (defScope s_own) f cdv A outer s H E) (WF E) (defBody s_own) (tb_own K) :=
  (rss_cons (rs_if (rt_not (rt_val (RE.p (re_callB (cd_isi (K := K)) T.b_isinstance (rpa_cons (rp_var 0) (rpa_cons (RE.p (re_ty T.b_list (by decide +kernel))) rpa_nil)))))) (rss_one (rs_ret (re_var 0))) rss_nil) (rss_one (rs_ret (by exact (RN.e (rn_lc sc_own.nd (ri_seq (re_var 0)) (blkOk_by (own := [("one", 1)]) (N := N_own) (sc := (defScope s_own)) (by decide +kernel)) (fun _ _ _ _ _ => (rg_name 1 sc_own.nd)) (fun _ _ _ _ _ => rts_nil) (fun _ _ _ _ _ => (re_call D_own_list (hr.mono (by decide)) T.f_own_list takes0 (ra_cons (re_var 1) ra_nil)))))))))
/-! ### own_list -/
abbrev s_own_list : Stmt := topS 26
theorem sc_own_list : FnScope N_own_list ["thing"] (defScope s_own_list) := ⟨rfl, rfl, rfl, by decide +kernel, rfl, by decide +kernel, by decide +kernel⟩
theorem der_own_list (T : Txt K mg a_Settles_init a_Comes_init a_is_whole a_own a_own_list a_are_wholes a_is_row a_is_room a_is_table a_Mode_init a_is_mode a_is_push a_Thing_init a_Thing_pushes a_Thing_modes a_Straight_init a_Stopped_init a_Parted_init a_words_in a_read_number a_read_numbers a_show_numbers a_show_room a_read_room a_show_rule a_rule_at a_read_rule a_show_claim a_claim_of a_read_claim a_rows_of_mode a_show_thing a_headed a_read_mode a_read_thing a__law_cell_at a__law_stream a__law_number a__law_words a__law_leaf a__law_tree a__law_rule a__law_rule_text a__law_same_rule a__law_rows a__law_room_text a__law_claims a__law_parts a__law_thing_text a__law_things a_law C_BadThing C_TooMany C_Claim C_Settles C_Comes C_Mode C_Thing C_Rule C_Straight C_Stopped C_Parted) 
    {f : Addr} {cdv : Value} {A : Around} {outer : List Env} {s : Shared} {H : Hp} {E : XK} (hr : Room 0 (A.deeper (envOfC "own_list" (defScope s_own_list) s.heap.objs.size f cdv))) :
    RSs (cxOf (L2.CX P w) P w K mg base N_own_list "own_list" (defScope s_own_list) f cdv A outer s H E) (WF E) (defBody s_own_list) (tb_own_list K) :=
  (rss_cons (rs_if (rt_val (RE.p (re_callB (cd_isi (K := K)) T.b_isinstance (rpa_cons (rp_var 0) (rpa_cons (RE.p (re_ty T.b_list (by decide +kernel))) rpa_nil))))) (rss_one (rs_ret (re_callTy cd_list T.b_list (rpa_cons (rp_var 0) rpa_nil)))) rss_nil) (rss_one (rs_ret (re_var 0))))
/-! ### are_wholes -/
abbrev s_are_wholes : Stmt := topS 27
theorem sc_are_wholes : FnScope N_are_wholes ["thing", "many"] (defScope s_are_wholes) := ⟨rfl, rfl, rfl, by decide +kernel, rfl, by decide +kernel, by decide +kernel⟩
theorem der_are_wholes (T : Txt K mg a_Settles_init a_Comes_init a_is_whole a_own a_own_list a_are_wholes a_is_row a_is_room a_is_table a_Mode_init a_is_mode a_is_push a_Thing_init a_Thing_pushes a_Thing_modes a_Straight_init a_Stopped_init a_Parted_init a_words_in a_read_number a_read_numbers a_show_numbers a_show_room a_read_room a_show_rule a_rule_at a_read_rule a_show_claim a_claim_of a_read_claim a_rows_of_mode a_show_thing a_headed a_read_mode a_read_thing a__law_cell_at a__law_stream a__law_number a__law_words a__law_leaf a__law_tree a__law_rule a__law_rule_text a__law_same_rule a__law_rows a__law_room_text a__law_claims a__law_parts a__law_thing_text a__law_things a_law C_BadThing C_TooMany C_Claim C_Settles C_Comes C_Mode C_Thing C_Rule C_Straight C_Stopped C_Parted) (D_is_whole : FD P w K mg base 1 a_is_whole 1 [] g_is_whole)
    {f : Addr} {cdv : Value} {A : Around} {outer : List Env} {s : Shared} {H : Hp} {E : XK} (hr : Room 1 (A.deeper (envOfC "are_wholes" (defScope s_are_wholes) s.heap.objs.size f cdv))) :
    RSs (cxOf (L2.CX P w) P w K mg base N_are_wholes "are_wholes" (defScope s_are_wholes) f cdv A outer s H E) (WF E) (defBody s_are_wholes) (tb_are_wholes K) :=
  (rss_one (rs_ret (re_and (RE.p (re_callB (cd_isi (K := K)) T.b_isinstance (rpa_cons (rp_var 0) (rpa_cons (RE.p (re_ty T.b_list (by decide +kernel))) rpa_nil)))) (re_and (RE.p (re_cmp (opd_eq hr.units) (RE.p (re_callB cd_len T.b_len (rpa_cons (rp_var 0) rpa_nil))) (rp_var 1))) (re_one (re_callB (cd_all rfl) T.b_all (rpa_cons (RE.p (by exact (RN.e (rn_lc sc_are_wholes.nd (ri_seq (re_var 0)) (blkOk_by (own := [("one", 2)]) (N := N_are_wholes) (sc := (defScope s_are_wholes)) (by decide +kernel)) (fun _ _ _ _ _ => (rg_name 2 sc_are_wholes.nd)) (fun _ _ _ _ _ => rts_nil) (fun _ _ _ _ _ => (re_call D_is_whole (hr.mono (by decide)) T.f_is_whole takes0 (ra_cons (re_var 2) ra_nil))))))) rpa_nil)))))))
/-! ### is_row -/
abbrev s_is_row : Stmt := topS 28
theorem sc_is_row : FnScope N_is_row ["thing", "many"] (defScope s_is_row) := ⟨rfl, rfl, rfl, by decide +kernel, rfl, by decide +kernel, by decide +kernel⟩
theorem der_is_row (T : Txt K mg a_Settles_init a_Comes_init a_is_whole a_own a_own_list a_are_wholes a_is_row a_is_room a_is_table a_Mode_init a_is_mode a_is_push a_Thing_init a_Thing_pushes a_Thing_modes a_Straight_init a_Stopped_init a_Parted_init a_words_in a_read_number a_read_numbers a_show_numbers a_show_room a_read_room a_show_rule a_rule_at a_read_rule a_show_claim a_claim_of a_read_claim a_rows_of_mode a_show_thing a_headed a_read_mode a_read_thing a__law_cell_at a__law_stream a__law_number a__law_words a__law_leaf a__law_tree a__law_rule a__law_rule_text a__law_same_rule a__law_rows a__law_room_text a__law_claims a__law_parts a__law_thing_text a__law_things a_law C_BadThing C_TooMany C_Claim C_Settles C_Comes C_Mode C_Thing C_Rule C_Straight C_Stopped C_Parted) (D_is_whole : FD P w K mg base 1 a_is_whole 1 [] g_is_whole)
    {f : Addr} {cdv : Value} {A : Around} {outer : List Env} {s : Shared} {H : Hp} {E : XK} (hr : Room 1 (A.deeper (envOfC "is_row" (defScope s_is_row) s.heap.objs.size f cdv))) :
    RSs (cxOf (L2.CX P w) P w K mg base N_is_row "is_row" (defScope s_is_row) f cdv A outer s H E) (WF E) (defBody s_is_row) (tb_is_row K) :=
  (rss_one (rs_ret (re_and (RE.p (re_callB (cd_isi (K := K)) T.b_isinstance (rpa_cons (rp_var 0) (rpa_cons (RE.p (re_ty T.b_tuple (by decide +kernel))) rpa_nil)))) (re_and (RE.p (re_cmp (opd_eq hr.units) (RE.p (re_callB cd_len T.b_len (rpa_cons (rp_var 0) rpa_nil))) (RE.p (re_op opd_add (rp_var 1) (RE.p re_int))))) (re_one (re_callB (cd_all rfl) T.b_all (rpa_cons (RE.p (by exact (RN.e (rn_lc sc_is_row.nd (ri_seq (re_var 0)) (blkOk_by (own := [("one", 2)]) (N := N_is_row) (sc := (defScope s_is_row)) (by decide +kernel)) (fun _ _ _ _ _ => (rg_name 2 sc_is_row.nd)) (fun _ _ _ _ _ => rts_nil) (fun _ _ _ _ _ => (re_call D_is_whole (hr.mono (by decide)) T.f_is_whole takes0 (ra_cons (re_var 2) ra_nil))))))) rpa_nil)))))))
/-! ### is_room -/
abbrev s_is_room : Stmt := topS 29
theorem sc_is_room : FnScope N_is_room ["thing", "many"] (defScope s_is_room) := ⟨rfl, rfl, rfl, by decide +kernel, rfl, by decide +kernel, by decide +kernel⟩
theorem der_is_room (T : Txt K mg a_Settles_init a_Comes_init a_is_whole a_own a_own_list a_are_wholes a_is_row a_is_room a_is_table a_Mode_init a_is_mode a_is_push a_Thing_init a_Thing_pushes a_Thing_modes a_Straight_init a_Stopped_init a_Parted_init a_words_in a_read_number a_read_numbers a_show_numbers a_show_room a_read_room a_show_rule a_rule_at a_read_rule a_show_claim a_claim_of a_read_claim a_rows_of_mode a_show_thing a_headed a_read_mode a_read_thing a__law_cell_at a__law_stream a__law_number a__law_words a__law_leaf a__law_tree a__law_rule a__law_rule_text a__law_same_rule a__law_rows a__law_room_text a__law_claims a__law_parts a__law_thing_text a__law_things a_law C_BadThing C_TooMany C_Claim C_Settles C_Comes C_Mode C_Thing C_Rule C_Straight C_Stopped C_Parted) (D_is_row : FD P w K mg base 2 a_is_row 2 [] g_is_row)
    {f : Addr} {cdv : Value} {A : Around} {outer : List Env} {s : Shared} {H : Hp} {E : XK} (hr : Room 2 (A.deeper (envOfC "is_room" (defScope s_is_room) s.heap.objs.size f cdv))) :
    RSs (cxOf (L2.CX P w) P w K mg base N_is_room "is_room" (defScope s_is_room) f cdv A outer s H E) (WF E) (defBody s_is_room) (tb_is_room K) :=
  (rss_one (rs_ret (re_and (RE.p (re_callB (cd_isi (K := K)) T.b_isinstance (rpa_cons (rp_var 0) (rpa_cons (RE.p (re_ty T.b_list (by decide +kernel))) rpa_nil)))) (re_one (re_callB (cd_all rfl) T.b_all (rpa_cons (RE.p (by exact (RN.e (rn_lc sc_is_room.nd (ri_seq (re_var 0)) (blkOk_by (own := [("row", 2)]) (N := N_is_room) (sc := (defScope s_is_room)) (by decide +kernel)) (fun _ _ _ _ _ => (rg_name 2 sc_is_room.nd)) (fun _ _ _ _ _ => rts_nil) (fun _ _ _ _ _ => (re_call D_is_row (hr.mono (by decide)) T.f_is_row takes0 (ra_cons (re_var 2) (ra_cons (re_var 1) ra_nil)))))))) rpa_nil))))))
/-! ### is_table -/
abbrev s_is_table : Stmt := topS 30
theorem sc_is_table : FnScope N_is_table ["thing", "many", "wide"] (defScope s_is_table) := ⟨rfl, rfl, rfl, by decide +kernel, rfl, by decide +kernel, by decide +kernel⟩
theorem der_is_table (T : Txt K mg a_Settles_init a_Comes_init a_is_whole a_own a_own_list a_are_wholes a_is_row a_is_room a_is_table a_Mode_init a_is_mode a_is_push a_Thing_init a_Thing_pushes a_Thing_modes a_Straight_init a_Stopped_init a_Parted_init a_words_in a_read_number a_read_numbers a_show_numbers a_show_room a_read_room a_show_rule a_rule_at a_read_rule a_show_claim a_claim_of a_read_claim a_rows_of_mode a_show_thing a_headed a_read_mode a_read_thing a__law_cell_at a__law_stream a__law_number a__law_words a__law_leaf a__law_tree a__law_rule a__law_rule_text a__law_same_rule a__law_rows a__law_room_text a__law_claims a__law_parts a__law_thing_text a__law_things a_law C_BadThing C_TooMany C_Claim C_Settles C_Comes C_Mode C_Thing C_Rule C_Straight C_Stopped C_Parted) (D_are_wholes : FD P w K mg base 2 a_are_wholes 2 [] g_are_wholes)
    {f : Addr} {cdv : Value} {A : Around} {outer : List Env} {s : Shared} {H : Hp} {E : XK} (hr : Room 2 (A.deeper (envOfC "is_table" (defScope s_is_table) s.heap.objs.size f cdv))) :
    RSs (cxOf (L2.CX P w) P w K mg base N_is_table "is_table" (defScope s_is_table) f cdv A outer s H E) (WF E) (defBody s_is_table) (tb_is_table K) :=
  (rss_one (rs_ret (re_and (RE.p (re_callB (cd_isi (K := K)) T.b_isinstance (rpa_cons (rp_var 0) (rpa_cons (RE.p (re_ty T.b_list (by decide +kernel))) rpa_nil)))) (re_and (RE.p (re_cmp (opd_eq hr.units) (RE.p (re_callB cd_len T.b_len (rpa_cons (rp_var 0) rpa_nil))) (rp_var 1))) (re_one (re_callB (cd_all rfl) T.b_all (rpa_cons (RE.p (by exact (RN.e (rn_lc sc_is_table.nd (ri_seq (re_var 0)) (blkOk_by (own := [("one", 3)]) (N := N_is_table) (sc := (defScope s_is_table)) (by decide +kernel)) (fun _ _ _ _ _ => (rg_name 3 sc_is_table.nd)) (fun _ _ _ _ _ => rts_nil) (fun _ _ _ _ _ => (re_call D_are_wholes (hr.mono (by decide)) T.f_are_wholes takes0 (ra_cons (re_var 3) (ra_cons (re_var 2) ra_nil)))))))) rpa_nil)))))))
/-! ### Mode_init -/
abbrev s_Mode_init : Stmt := inClass (topS 31) 0
theorem sc_Mode_init : FnScope N_Mode_init ["self", "rows", "nexts", "steer", "push", "add", "divisor"] (defScope s_Mode_init) := ⟨rfl, rfl, rfl, by decide +kernel, rfl, by decide +kernel, by decide +kernel⟩
theorem der_Mode_init (T : Txt K mg a_Settles_init a_Comes_init a_is_whole a_own a_own_list a_are_wholes a_is_row a_is_room a_is_table a_Mode_init a_is_mode a_is_push a_Thing_init a_Thing_pushes a_Thing_modes a_Straight_init a_Stopped_init a_Parted_init a_words_in a_read_number a_read_numbers a_show_numbers a_show_room a_read_room a_show_rule a_rule_at a_read_rule a_show_claim a_claim_of a_read_claim a_rows_of_mode a_show_thing a_headed a_read_mode a_read_thing a__law_cell_at a__law_stream a__law_number a__law_words a__law_leaf a__law_tree a__law_rule a__law_rule_text a__law_same_rule a__law_rows a__law_room_text a__law_claims a__law_parts a__law_thing_text a__law_things a_law C_BadThing C_TooMany C_Claim C_Settles C_Comes C_Mode C_Thing C_Rule C_Straight C_Stopped C_Parted) (D_own : FD P w K mg base 2 a_own 1 [] g_own)
    {f : Addr} {cdv : Value} {A : Around} {outer : List Env} {s : Shared} {H : Hp} {E : XK} (hr : Room 2 (A.deeper (envOfC "Mode.__init__" (defScope s_Mode_init) s.heap.objs.size f cdv))) :
    RSs (cxOf (L2.CX P w) P w K mg base N_Mode_init "Mode.__init__" (defScope s_Mode_init) f cdv A outer s H E) (WF E) (defBody s_Mode_init) (tb_Mode_init K) :=
  (rss_cons (rs_fldS (K := K) 0 (re_call D_own (hr.mono (by decide)) T.f_own (takes_of rfl rfl rfl rfl) (ra_cons (re_var 1) ra_nil))) (rss_cons (rs_fldS (K := K) 0 (re_call D_own (hr.mono (by decide)) T.f_own (takes_of rfl rfl rfl rfl) (ra_cons (re_var 2) ra_nil))) (rss_cons (rs_fldS (K := K) 0 (re_call D_own (hr.mono (by decide)) T.f_own (takes_of rfl rfl rfl rfl) (ra_cons (re_var 3) ra_nil))) (rss_cons (rs_fldS (K := K) 0 (re_call D_own (hr.mono (by decide)) T.f_own (takes_of rfl rfl rfl rfl) (ra_cons (re_var 4) ra_nil))) (rss_cons (rs_fldS (K := K) 0 (re_call D_own (hr.mono (by decide)) T.f_own (takes_of rfl rfl rfl rfl) (ra_cons (re_var 5) ra_nil))) (rss_one (rs_fldS (K := K) 0 (re_var 6))))))))
/-! ### is_mode -/
abbrev s_is_mode : Stmt := topS 32
theorem sc_is_mode : FnScope N_is_mode ["thing", "many", "wide"] (defScope s_is_mode) := ⟨rfl, rfl, rfl, by decide +kernel, rfl, by decide +kernel, by decide +kernel⟩
theorem der_is_mode (T : Txt K mg a_Settles_init a_Comes_init a_is_whole a_own a_own_list a_are_wholes a_is_row a_is_room a_is_table a_Mode_init a_is_mode a_is_push a_Thing_init a_Thing_pushes a_Thing_modes a_Straight_init a_Stopped_init a_Parted_init a_words_in a_read_number a_read_numbers a_show_numbers a_show_room a_read_room a_show_rule a_rule_at a_read_rule a_show_claim a_claim_of a_read_claim a_rows_of_mode a_show_thing a_headed a_read_mode a_read_thing a__law_cell_at a__law_stream a__law_number a__law_words a__law_leaf a__law_tree a__law_rule a__law_rule_text a__law_same_rule a__law_rows a__law_room_text a__law_claims a__law_parts a__law_thing_text a__law_things a_law C_BadThing C_TooMany C_Claim C_Settles C_Comes C_Mode C_Thing C_Rule C_Straight C_Stopped C_Parted) (D_is_whole : FD P w K mg base 1 a_is_whole 1 [] g_is_whole) (D_are_wholes : FD P w K mg base 2 a_are_wholes 2 [] g_are_wholes) (D_is_room : FD P w K mg base 3 a_is_room 2 [] g_is_room) (D_is_table : FD P w K mg base 3 a_is_table 3 [] g_is_table)
    {f : Addr} {cdv : Value} {A : Around} {outer : List Env} {s : Shared} {H : Hp} {E : XK} (hr : Room 3 (A.deeper (envOfC "is_mode" (defScope s_is_mode) s.heap.objs.size f cdv))) :
    RSs (cxOf (L2.CX P w) P w K mg base N_is_mode "is_mode" (defScope s_is_mode) f cdv A outer s H E) (WF E) (defBody s_is_mode) (tb_is_mode K C_Mode) :=
  (rss_cons (rs_if (RW.toT (rw_or (rt_not (rt_val (RE.p (re_callB (cd_isi (K := K)) T.b_isinstance (rpa_cons (rp_var 0) (rpa_cons (RE.p (re_glob T.c_Mode rfl)) rpa_nil)))))) (rw_or (rt_not (rt_val (RE.p (re_call D_is_room (hr.mono (by decide)) T.f_is_room (takes_of rfl rfl rfl rfl) (ra_cons (re_fld (K := K) (re_var 0)) (ra_cons (re_var 1) ra_nil)))))) (rw_or1 (rt_not (rt_val (RE.p (re_call D_is_table (hr.mono (by decide)) T.f_is_table (takes_of rfl rfl rfl rfl) (ra_cons (re_fld (K := K) (re_var 0)) (ra_cons (re_var 1) (ra_cons (re_var 1) ra_nil))))))))))) (rss_one (rs_ret re_bl)) rss_nil) (rss_cons (rs_if (RW.toT (rw_or (rt_not (rt_val (RE.p (re_call D_are_wholes (hr.mono (by decide)) T.f_are_wholes (takes_of rfl rfl rfl rfl) (ra_cons (re_fld (K := K) (re_var 0)) (ra_cons (re_var 1) ra_nil)))))) (rw_or (rt_not (rt_val (RE.p (re_call D_is_table (hr.mono (by decide)) T.f_is_table (takes_of rfl rfl rfl rfl) (ra_cons (re_fld (K := K) (re_var 0)) (ra_cons (re_var 1) (ra_cons (re_var 2) ra_nil))))))) (rw_or1 (rt_not (rt_val (RE.p (re_call D_are_wholes (hr.mono (by decide)) T.f_are_wholes (takes_of rfl rfl rfl rfl) (ra_cons (re_fld (K := K) (re_var 0)) (ra_cons (re_var 1) ra_nil)))))))))) (rss_one (rs_ret re_bl)) rss_nil) (rss_one (rs_ret (re_and (RE.p (re_call D_is_whole (hr.mono (by decide)) T.f_is_whole (takes_of rfl rfl rfl rfl) (ra_cons (re_fld (K := K) (re_var 0)) ra_nil))) (re_one (re_cmp opd_ge (RE.p (re_fld (K := K) (re_var 0))) (RE.p re_int))))))))
/-! ### is_push -/
abbrev s_is_push : Stmt := topS 33
theorem sc_is_push : FnScope N_is_push ["thing"] (defScope s_is_push) := ⟨rfl, rfl, rfl, by decide +kernel, rfl, by decide +kernel, by decide +kernel⟩
theorem der_is_push (T : Txt K mg a_Settles_init a_Comes_init a_is_whole a_own a_own_list a_are_wholes a_is_row a_is_room a_is_table a_Mode_init a_is_mode a_is_push a_Thing_init a_Thing_pushes a_Thing_modes a_Straight_init a_Stopped_init a_Parted_init a_words_in a_read_number a_read_numbers a_show_numbers a_show_room a_read_room a_show_rule a_rule_at a_read_rule a_show_claim a_claim_of a_read_claim a_rows_of_mode a_show_thing a_headed a_read_mode a_read_thing a__law_cell_at a__law_stream a__law_number a__law_words a__law_leaf a__law_tree a__law_rule a__law_rule_text a__law_same_rule a__law_rows a__law_room_text a__law_claims a__law_parts a__law_thing_text a__law_things a_law C_BadThing C_TooMany C_Claim C_Settles C_Comes C_Mode C_Thing C_Rule C_Straight C_Stopped C_Parted) (D_is_whole : FD P w K mg base 1 a_is_whole 1 [] g_is_whole)
    {f : Addr} {cdv : Value} {A : Around} {outer : List Env} {s : Shared} {H : Hp} {E : XK} (hr : Room 1 (A.deeper (envOfC "is_push" (defScope s_is_push) s.heap.objs.size f cdv))) :
    RSs (cxOf (L2.CX P w) P w K mg base N_is_push "is_push" (defScope s_is_push) f cdv A outer s H E) (WF E) (defBody s_is_push) (tb_is_push K) :=
  (rss_cons (rs_if (RW.toT (rw_or (rt_not (rt_val (RE.p (re_callB (cd_isi (K := K)) T.b_isinstance (rpa_cons (rp_var 0) (rpa_cons (RE.p (re_ty T.b_tuple (by decide +kernel))) rpa_nil)))))) (rw_or (rt_cmp (opd_ne hr.units) (RE.p (re_callB cd_len T.b_len (rpa_cons (rp_var 0) rpa_nil))) (RE.p re_int)) (rw_or (rt_not (rt_val (RE.p (re_call D_is_whole (hr.mono (by decide)) T.f_is_whole (takes_of rfl rfl rfl rfl) (ra_cons (re_ix ixd_seq (rp_var 0) (RE.p re_int)) ra_nil))))) (rw_or1 (rt_not (rt_val (RE.p (re_call D_is_whole (hr.mono (by decide)) T.f_is_whole (takes_of rfl rfl rfl rfl) (ra_cons (re_ix ixd_seq (rp_var 0) (RE.p re_int)) ra_nil)))))))))) (rss_one (rs_ret re_bl)) rss_nil) (rss_one (rs_ret (re_cmp opd_le (RE.p (re_ix ixd_seq (rp_var 0) (RE.p re_int))) (RE.p (re_ix ixd_seq (rp_var 0) (RE.p re_int)))))))
/-! ### Thing_init -/
abbrev s_Thing_init : Stmt := inClass (topS 34) 0
theorem sc_Thing_init : FnScope N_Thing_init ["self", "many", "pushes", "modes"] (defScope s_Thing_init) := ⟨rfl, rfl, rfl, by decide +kernel, rfl, by decide +kernel, by decide +kernel⟩
theorem der_Thing_init (T : Txt K mg a_Settles_init a_Comes_init a_is_whole a_own a_own_list a_are_wholes a_is_row a_is_room a_is_table a_Mode_init a_is_mode a_is_push a_Thing_init a_Thing_pushes a_Thing_modes a_Straight_init a_Stopped_init a_Parted_init a_words_in a_read_number a_read_numbers a_show_numbers a_show_room a_read_room a_show_rule a_rule_at a_read_rule a_show_claim a_claim_of a_read_claim a_rows_of_mode a_show_thing a_headed a_read_mode a_read_thing a__law_cell_at a__law_stream a__law_number a__law_words a__law_leaf a__law_tree a__law_rule a__law_rule_text a__law_same_rule a__law_rows a__law_room_text a__law_claims a__law_parts a__law_thing_text a__law_things a_law C_BadThing C_TooMany C_Claim C_Settles C_Comes C_Mode C_Thing C_Rule C_Straight C_Stopped C_Parted) (D_is_whole : FD P w K mg base 1 a_is_whole 1 [] g_is_whole) (D_is_mode : FD P w K mg base 4 a_is_mode 3 [] (g_is_mode C_Mode)) (D_is_push : FD P w K mg base 2 a_is_push 1 [] g_is_push)
    {f : Addr} {cdv : Value} {A : Around} {outer : List Env} {s : Shared} {H : Hp} {E : XK} (hr : Room 4 (A.deeper (envOfC "Thing.__init__" (defScope s_Thing_init) s.heap.objs.size f cdv))) :
    RSs (cxOf (L2.CX P w) P w K mg base N_Thing_init "Thing.__init__" (defScope s_Thing_init) f cdv A outer s H E) (WF E) (defBody s_Thing_init) (tb_Thing_init K C_BadThing C_Mode C_TooMany) :=
  (rss_cons (rs_if (RW.toT (rw_or (rt_not (rt_val (RE.p (re_call D_is_whole (hr.mono (by decide)) T.f_is_whole (takes_of rfl rfl rfl rfl) (ra_cons (re_var 1) ra_nil))))) (rw_or1 (rt_not (rt_chain' opd_le opd_le (RE.p re_int) (rp_var 1) (RE.p (re_glob (d := (.int 3)) (Classical.choose_spec T.g_MOST_NUMBERS) ⟨_, rfl⟩))))))) (rss_one (rs_raise T.x_BadThing (takes_of rfl rfl rfl rfl))) rss_nil) (rss_cons (rs_if (RW.toT (rw_or (rt_not (rt_val (RE.p (re_callB (cd_isi (K := K)) T.b_isinstance (rpa_cons (rp_var 2) (rpa_cons (RE.p (re_ty T.b_list (by decide +kernel))) rpa_nil)))))) (rw_or1 (rt_not (rt_val (RE.p (re_callB (cd_all rfl) T.b_all (rpa_cons (RE.p (by exact (RN.e (rn_lc sc_Thing_init.nd (ri_seq (re_var 2)) (blkOk_by (own := [("push", 4)]) (N := N_Thing_init) (sc := (defScope s_Thing_init)) (by decide +kernel)) (fun _ _ _ _ _ => (rg_name 4 sc_Thing_init.nd)) (fun _ _ _ _ _ => rts_nil) (fun _ _ _ _ _ => (re_call D_is_push (hr.mono (by decide)) T.f_is_push takes0 (ra_cons (re_var 4) ra_nil))))))) rpa_nil)))))))) (rss_one (rs_raise T.x_BadThing (takes_of rfl rfl rfl rfl))) rss_nil) (rss_cons (rs_if (RW.toT (rw_or (rt_not (rt_val (RE.p (re_callB (cd_isi (K := K)) T.b_isinstance (rpa_cons (rp_var 3) (rpa_cons (RE.p (re_ty T.b_list (by decide +kernel))) rpa_nil)))))) (rw_or1 (rt_cmp (opd_eqZ hr.units) (rp_var 3) (RE.p (re_lst ra_nil)))))) (rss_one (rs_raise T.x_BadThing (takes_of rfl rfl rfl rfl))) rss_nil) (rss_cons (rs_if (rt_not (rt_val (RE.p (re_callB (cd_all rfl) T.b_all (rpa_cons (RE.p (by exact (RN.e (rn_lc sc_Thing_init.nd (ri_seq (re_var 3)) (blkOk_by (own := [("mode", 5)]) (N := N_Thing_init) (sc := (defScope s_Thing_init)) (by decide +kernel)) (fun _ _ _ _ _ => (rg_name 5 sc_Thing_init.nd)) (fun _ _ _ _ _ => rts_nil) (fun _ _ _ _ _ => (re_call D_is_mode (hr.mono (by decide)) T.f_is_mode takes0 (ra_cons (re_var 5) (ra_cons (re_var 1) (ra_cons (re_callB cd_len T.b_len (rpa_cons (rp_var 2) rpa_nil)) ra_nil))))))))) rpa_nil))))) (rss_one (rs_raise T.x_BadThing (takes_of rfl rfl rfl rfl))) rss_nil) (rss_cons (rs_if (RW.toT (rw_or (rt_cmp opd_gt (RE.p (re_callB cd_len T.b_len (rpa_cons (rp_var 2) rpa_nil))) (RE.p (re_glob (d := (.int 6)) (Classical.choose_spec T.g_MOST_PUSHES) ⟨_, rfl⟩))) (rw_or1 (rt_cmp opd_gt (RE.p (re_callB cd_len T.b_len (rpa_cons (rp_var 3) rpa_nil))) (RE.p (re_glob (d := (.int 40)) (Classical.choose_spec T.g_MOST_MODES) ⟨_, rfl⟩)))))) (rss_one (rs_raise T.x_TooMany (takes_of rfl rfl rfl rfl))) rss_nil) (rss_cons (rs_fldS (K := K) 0 (re_var 1)) (rss_cons (rs_fldS (K := K) 0 (re_callTy cd_list T.b_list (rpa_cons (rp_var 2) rpa_nil))) (rss_one (rs_fldS (K := K) 0 (re_callTy cd_list T.b_list (rpa_cons (rp_var 3) rpa_nil)))))))))))
/-! ### Thing_pushes -/
abbrev s_Thing_pushes : Stmt := inClass (topS 34) 1
theorem sc_Thing_pushes : FnScope N_Thing_pushes ["self"] (defScope s_Thing_pushes) := ⟨rfl, rfl, rfl, by decide +kernel, rfl, by decide +kernel, by decide +kernel⟩
theorem der_Thing_pushes (T : Txt K mg a_Settles_init a_Comes_init a_is_whole a_own a_own_list a_are_wholes a_is_row a_is_room a_is_table a_Mode_init a_is_mode a_is_push a_Thing_init a_Thing_pushes a_Thing_modes a_Straight_init a_Stopped_init a_Parted_init a_words_in a_read_number a_read_numbers a_show_numbers a_show_room a_read_room a_show_rule a_rule_at a_read_rule a_show_claim a_claim_of a_read_claim a_rows_of_mode a_show_thing a_headed a_read_mode a_read_thing a__law_cell_at a__law_stream a__law_number a__law_words a__law_leaf a__law_tree a__law_rule a__law_rule_text a__law_same_rule a__law_rows a__law_room_text a__law_claims a__law_parts a__law_thing_text a__law_things a_law C_BadThing C_TooMany C_Claim C_Settles C_Comes C_Mode C_Thing C_Rule C_Straight C_Stopped C_Parted) 
    {f : Addr} {cdv : Value} {A : Around} {outer : List Env} {s : Shared} {H : Hp} {E : XK} (hr : Room 0 (A.deeper (envOfC "Thing.pushes" (defScope s_Thing_pushes) s.heap.objs.size f cdv))) :
    RSs (cxOf (L2.CX P w) P w K mg base N_Thing_pushes "Thing.pushes" (defScope s_Thing_pushes) f cdv A outer s H E) (WF E) (defBody s_Thing_pushes) (tb_Thing_pushes K) :=
  (rss_one (rs_ret (re_callTy cd_list T.b_list (rpa_cons (RE.p (re_fld (K := K) (re_var 0))) rpa_nil))))
/-! ### Thing_modes -/
abbrev s_Thing_modes : Stmt := inClass (topS 34) 2
theorem sc_Thing_modes : FnScope N_Thing_modes ["self"] (defScope s_Thing_modes) := ⟨rfl, rfl, rfl, by decide +kernel, rfl, by decide +kernel, by decide +kernel⟩
theorem der_Thing_modes (T : Txt K mg a_Settles_init a_Comes_init a_is_whole a_own a_own_list a_are_wholes a_is_row a_is_room a_is_table a_Mode_init a_is_mode a_is_push a_Thing_init a_Thing_pushes a_Thing_modes a_Straight_init a_Stopped_init a_Parted_init a_words_in a_read_number a_read_numbers a_show_numbers a_show_room a_read_room a_show_rule a_rule_at a_read_rule a_show_claim a_claim_of a_read_claim a_rows_of_mode a_show_thing a_headed a_read_mode a_read_thing a__law_cell_at a__law_stream a__law_number a__law_words a__law_leaf a__law_tree a__law_rule a__law_rule_text a__law_same_rule a__law_rows a__law_room_text a__law_claims a__law_parts a__law_thing_text a__law_things a_law C_BadThing C_TooMany C_Claim C_Settles C_Comes C_Mode C_Thing C_Rule C_Straight C_Stopped C_Parted) 
    {f : Addr} {cdv : Value} {A : Around} {outer : List Env} {s : Shared} {H : Hp} {E : XK} (hr : Room 0 (A.deeper (envOfC "Thing.modes" (defScope s_Thing_modes) s.heap.objs.size f cdv))) :
    RSs (cxOf (L2.CX P w) P w K mg base N_Thing_modes "Thing.modes" (defScope s_Thing_modes) f cdv A outer s H E) (WF E) (defBody s_Thing_modes) (tb_Thing_modes K) :=
  (rss_one (rs_ret (re_callTy cd_list T.b_list (rpa_cons (RE.p (re_fld (K := K) (re_var 0))) rpa_nil))))
/-! ### Straight_init -/
abbrev s_Straight_init : Stmt := inClass (topS 37) 0
theorem sc_Straight_init : FnScope N_Straight_init ["self", "numbers", "add", "divisor"] (defScope s_Straight_init) := ⟨rfl, rfl, rfl, by decide +kernel, rfl, by decide +kernel, by decide +kernel⟩
theorem der_Straight_init (T : Txt K mg a_Settles_init a_Comes_init a_is_whole a_own a_own_list a_are_wholes a_is_row a_is_room a_is_table a_Mode_init a_is_mode a_is_push a_Thing_init a_Thing_pushes a_Thing_modes a_Straight_init a_Stopped_init a_Parted_init a_words_in a_read_number a_read_numbers a_show_numbers a_show_room a_read_room a_show_rule a_rule_at a_read_rule a_show_claim a_claim_of a_read_claim a_rows_of_mode a_show_thing a_headed a_read_mode a_read_thing a__law_cell_at a__law_stream a__law_number a__law_words a__law_leaf a__law_tree a__law_rule a__law_rule_text a__law_same_rule a__law_rows a__law_room_text a__law_claims a__law_parts a__law_thing_text a__law_things a_law C_BadThing C_TooMany C_Claim C_Settles C_Comes C_Mode C_Thing C_Rule C_Straight C_Stopped C_Parted) (D_own_list : FD P w K mg base 1 a_own_list 1 [] g_own_list)
    {f : Addr} {cdv : Value} {A : Around} {outer : List Env} {s : Shared} {H : Hp} {E : XK} (hr : Room 1 (A.deeper (envOfC "Straight.__init__" (defScope s_Straight_init) s.heap.objs.size f cdv))) :
    RSs (cxOf (L2.CX P w) P w K mg base N_Straight_init "Straight.__init__" (defScope s_Straight_init) f cdv A outer s H E) (WF E) (defBody s_Straight_init) (tb_Straight_init K) :=
  (rss_cons (rs_fldS (K := K) 0 (re_call D_own_list (hr.mono (by decide)) T.f_own_list (takes_of rfl rfl rfl rfl) (ra_cons (re_var 1) ra_nil))) (rss_cons (rs_fldS (K := K) 0 (re_var 2)) (rss_one (rs_fldS (K := K) 0 (re_var 3)))))
/-! ### Stopped_init -/
abbrev s_Stopped_init : Stmt := inClass (topS 38) 0
theorem sc_Stopped_init : FnScope N_Stopped_init ["self", "rule", "low", "high"] (defScope s_Stopped_init) := ⟨rfl, rfl, rfl, by decide +kernel, rfl, by decide +kernel, by decide +kernel⟩
theorem der_Stopped_init (T : Txt K mg a_Settles_init a_Comes_init a_is_whole a_own a_own_list a_are_wholes a_is_row a_is_room a_is_table a_Mode_init a_is_mode a_is_push a_Thing_init a_Thing_pushes a_Thing_modes a_Straight_init a_Stopped_init a_Parted_init a_words_in a_read_number a_read_numbers a_show_numbers a_show_room a_read_room a_show_rule a_rule_at a_read_rule a_show_claim a_claim_of a_read_claim a_rows_of_mode a_show_thing a_headed a_read_mode a_read_thing a__law_cell_at a__law_stream a__law_number a__law_words a__law_leaf a__law_tree a__law_rule a__law_rule_text a__law_same_rule a__law_rows a__law_room_text a__law_claims a__law_parts a__law_thing_text a__law_things a_law C_BadThing C_TooMany C_Claim C_Settles C_Comes C_Mode C_Thing C_Rule C_Straight C_Stopped C_Parted) 
    {f : Addr} {cdv : Value} {A : Around} {outer : List Env} {s : Shared} {H : Hp} {E : XK} (hr : Room 0 (A.deeper (envOfC "Stopped.__init__" (defScope s_Stopped_init) s.heap.objs.size f cdv))) :
    RSs (cxOf (L2.CX P w) P w K mg base N_Stopped_init "Stopped.__init__" (defScope s_Stopped_init) f cdv A outer s H E) (WF E) (defBody s_Stopped_init) (tb_Stopped_init K) :=
  (rss_cons (rs_fldS (K := K) 0 (re_var 1)) (rss_cons (rs_fldS (K := K) 0 (re_var 2)) (rss_one (rs_fldS (K := K) 0 (re_var 3)))))
/-! ### Parted_init -/
abbrev s_Parted_init : Stmt := inClass (topS 39) 0
theorem sc_Parted_init : FnScope N_Parted_init ["self", "row", "rule", "other"] (defScope s_Parted_init) := ⟨rfl, rfl, rfl, by decide +kernel, rfl, by decide +kernel, by decide +kernel⟩
theorem der_Parted_init (T : Txt K mg a_Settles_init a_Comes_init a_is_whole a_own a_own_list a_are_wholes a_is_row a_is_room a_is_table a_Mode_init a_is_mode a_is_push a_Thing_init a_Thing_pushes a_Thing_modes a_Straight_init a_Stopped_init a_Parted_init a_words_in a_read_number a_read_numbers a_show_numbers a_show_room a_read_room a_show_rule a_rule_at a_read_rule a_show_claim a_claim_of a_read_claim a_rows_of_mode a_show_thing a_headed a_read_mode a_read_thing a__law_cell_at a__law_stream a__law_number a__law_words a__law_leaf a__law_tree a__law_rule a__law_rule_text a__law_same_rule a__law_rows a__law_room_text a__law_claims a__law_parts a__law_thing_text a__law_things a_law C_BadThing C_TooMany C_Claim C_Settles C_Comes C_Mode C_Thing C_Rule C_Straight C_Stopped C_Parted) 
    {f : Addr} {cdv : Value} {A : Around} {outer : List Env} {s : Shared} {H : Hp} {E : XK} (hr : Room 0 (A.deeper (envOfC "Parted.__init__" (defScope s_Parted_init) s.heap.objs.size f cdv))) :
    RSs (cxOf (L2.CX P w) P w K mg base N_Parted_init "Parted.__init__" (defScope s_Parted_init) f cdv A outer s H E) (WF E) (defBody s_Parted_init) (tb_Parted_init K) :=
  (rss_cons (rs_fldS (K := K) 0 (re_var 1)) (rss_cons (rs_fldS (K := K) 0 (re_var 2)) (rss_one (rs_fldS (K := K) 0 (re_var 3)))))
/-! ### words_in -/
abbrev s_words_in : Stmt := topS 43
theorem sc_words_in : FnScope N_words_in ["text"] (defScope s_words_in) := ⟨rfl, rfl, rfl, by decide +kernel, rfl, by decide +kernel, by decide +kernel⟩
theorem der_words_in (T : Txt K mg a_Settles_init a_Comes_init a_is_whole a_own a_own_list a_are_wholes a_is_row a_is_room a_is_table a_Mode_init a_is_mode a_is_push a_Thing_init a_Thing_pushes a_Thing_modes a_Straight_init a_Stopped_init a_Parted_init a_words_in a_read_number a_read_numbers a_show_numbers a_show_room a_read_room a_show_rule a_rule_at a_read_rule a_show_claim a_claim_of a_read_claim a_rows_of_mode a_show_thing a_headed a_read_mode a_read_thing a__law_cell_at a__law_stream a__law_number a__law_words a__law_leaf a__law_tree a__law_rule a__law_rule_text a__law_same_rule a__law_rows a__law_room_text a__law_claims a__law_parts a__law_thing_text a__law_things a_law C_BadThing C_TooMany C_Claim C_Settles C_Comes C_Mode C_Thing C_Rule C_Straight C_Stopped C_Parted) 
    {f : Addr} {cdv : Value} {A : Around} {outer : List Env} {s : Shared} {H : Hp} {E : XK} (hr : Room 0 (A.deeper (envOfC "words_in" (defScope s_words_in) s.heap.objs.size f cdv))) :
    RSs (cxOf (L2.CX P w) P w K mg base N_words_in "words_in" (defScope s_words_in) f cdv A outer s H E) (WF E) (defBody s_words_in) (tb_words_in K) :=
  (rss_cons (rs_if (rt_not (rt_val (RE.p (re_callB (cd_isi (K := K)) T.b_isinstance (rpa_cons (rp_var 0) (rpa_cons (RE.p (re_ty T.b_str (by decide +kernel))) rpa_nil)))))) (rss_one rs_never) rss_nil) (rss_one (rs_ret (re_split (rp_var 0) (RE.p re_str)))))
/-! ### read_number -/
abbrev s_read_number : Stmt := topS 44
theorem sc_read_number : FnScope N_read_number ["word"] (defScope s_read_number) := ⟨rfl, rfl, rfl, by decide +kernel, rfl, by decide +kernel, by decide +kernel⟩
theorem der_read_number (T : Txt K mg a_Settles_init a_Comes_init a_is_whole a_own a_own_list a_are_wholes a_is_row a_is_room a_is_table a_Mode_init a_is_mode a_is_push a_Thing_init a_Thing_pushes a_Thing_modes a_Straight_init a_Stopped_init a_Parted_init a_words_in a_read_number a_read_numbers a_show_numbers a_show_room a_read_room a_show_rule a_rule_at a_read_rule a_show_claim a_claim_of a_read_claim a_rows_of_mode a_show_thing a_headed a_read_mode a_read_thing a__law_cell_at a__law_stream a__law_number a__law_words a__law_leaf a__law_tree a__law_rule a__law_rule_text a__law_same_rule a__law_rows a__law_room_text a__law_claims a__law_parts a__law_thing_text a__law_things a_law C_BadThing C_TooMany C_Claim C_Settles C_Comes C_Mode C_Thing C_Rule C_Straight C_Stopped C_Parted) 
    {f : Addr} {cdv : Value} {A : Around} {outer : List Env} {s : Shared} {H : Hp} {E : XK} (hr : Room 0 (A.deeper (envOfC "read_number" (defScope s_read_number) s.heap.objs.size f cdv))) :
    RSs (cxOf (L2.CX P w) P w K mg base N_read_number "read_number" (defScope s_read_number) f cdv A outer s H E) (WF E) (defBody s_read_number) (tb_read_number) :=
  (rss_cons (rs_set 1 sc_read_number.nd (re_var 0)) (rss_cons (rs_if (rt_val (RE.p (re_starts (rp_var 0) (RE.p re_str)))) (rss_one (rs_set 1 sc_read_number.nd (re_slice (rp_var 0) (ro_some (RE.p re_int)) ro_none))) rss_nil) (rss_cons (rs_if (RW.toT (rw_or (rt_not (rt_chain' opd_le opd_le (RE.p re_int) (RE.p (re_callB cd_len T.b_len (rpa_cons (rp_var 1) rpa_nil))) (RE.p (re_glob (d := (.int 60)) (Classical.choose_spec T.g_MOST_FIGURES) ⟨_, rfl⟩)))) (rw_or (rt_cmp (opd_eq hr.units) (rp_var 0) (RE.p re_str)) (rw_or1 (RW.toT (rw_and (rt_val (RE.p (re_starts (rp_var 1) (RE.p re_str)))) (rw_and1 (rt_cmp (opd_ne hr.units) (rp_var 1) (RE.p re_str))))))))) (rss_one rs_never) rss_nil) (rss_cons (rs_for (passes_of rfl) (ri_str (rp_var 1)) (rg_name 2 sc_read_number.nd) (rss_one (rs_if (rt_cmp opd_ninS (rp_var 2) (RE.p (re_glob (d := (.str "0123456789")) (Classical.choose_spec T.g_FIGURES) ⟨_, rfl⟩))) (rss_one rs_never) rss_nil))) (rss_one (rs_ret (re_callTy cd_intS T.b_int (rpa_cons (rp_var 0) rpa_nil))))))))
/-! ### read_numbers -/
abbrev s_read_numbers : Stmt := topS 45
theorem sc_read_numbers : FnScope N_read_numbers ["words", "many"] (defScope s_read_numbers) := ⟨rfl, rfl, rfl, by decide +kernel, rfl, by decide +kernel, by decide +kernel⟩
theorem der_read_numbers (T : Txt K mg a_Settles_init a_Comes_init a_is_whole a_own a_own_list a_are_wholes a_is_row a_is_room a_is_table a_Mode_init a_is_mode a_is_push a_Thing_init a_Thing_pushes a_Thing_modes a_Straight_init a_Stopped_init a_Parted_init a_words_in a_read_number a_read_numbers a_show_numbers a_show_room a_read_room a_show_rule a_rule_at a_read_rule a_show_claim a_claim_of a_read_claim a_rows_of_mode a_show_thing a_headed a_read_mode a_read_thing a__law_cell_at a__law_stream a__law_number a__law_words a__law_leaf a__law_tree a__law_rule a__law_rule_text a__law_same_rule a__law_rows a__law_room_text a__law_claims a__law_parts a__law_thing_text a__law_things a_law C_BadThing C_TooMany C_Claim C_Settles C_Comes C_Mode C_Thing C_Rule C_Straight C_Stopped C_Parted) (D_read_number : FD P w K mg base 1 a_read_number 1 [] g_read_number)
    {f : Addr} {cdv : Value} {A : Around} {outer : List Env} {s : Shared} {H : Hp} {E : XK} (hr : Room 1 (A.deeper (envOfC "read_numbers" (defScope s_read_numbers) s.heap.objs.size f cdv))) :
    RSs (cxOf (L2.CX P w) P w K mg base N_read_numbers "read_numbers" (defScope s_read_numbers) f cdv A outer s H E) (WF E) (defBody s_read_numbers) (tb_read_numbers) :=
  (rss_cons (rs_if (rt_cmp (opd_ne hr.units) (RE.p (re_callB cd_len T.b_len (rpa_cons (rp_var 0) rpa_nil))) (rp_var 1)) (rss_one rs_never) rss_nil) (rss_one (rs_ret (by exact (RN.e (rn_lc sc_read_numbers.nd (ri_seq (re_var 0)) (blkOk_by (own := [("word", 2)]) (N := N_read_numbers) (sc := (defScope s_read_numbers)) (by decide +kernel)) (fun _ _ _ _ _ => (rg_name 2 sc_read_numbers.nd)) (fun _ _ _ _ _ => rts_nil) (fun _ _ _ _ _ => (re_call D_read_number (hr.mono (by decide)) T.f_read_number takes0 (ra_cons (re_var 2) ra_nil)))))))))
/-! ### show_numbers -/
abbrev s_show_numbers : Stmt := topS 46
theorem sc_show_numbers : FnScope N_show_numbers ["numbers"] (defScope s_show_numbers) := ⟨rfl, rfl, rfl, by decide +kernel, rfl, by decide +kernel, by decide +kernel⟩
theorem der_show_numbers (T : Txt K mg a_Settles_init a_Comes_init a_is_whole a_own a_own_list a_are_wholes a_is_row a_is_room a_is_table a_Mode_init a_is_mode a_is_push a_Thing_init a_Thing_pushes a_Thing_modes a_Straight_init a_Stopped_init a_Parted_init a_words_in a_read_number a_read_numbers a_show_numbers a_show_room a_read_room a_show_rule a_rule_at a_read_rule a_show_claim a_claim_of a_read_claim a_rows_of_mode a_show_thing a_headed a_read_mode a_read_thing a__law_cell_at a__law_stream a__law_number a__law_words a__law_leaf a__law_tree a__law_rule a__law_rule_text a__law_same_rule a__law_rows a__law_room_text a__law_claims a__law_parts a__law_thing_text a__law_things a_law C_BadThing C_TooMany C_Claim C_Settles C_Comes C_Mode C_Thing C_Rule C_Straight C_Stopped C_Parted) 
    {f : Addr} {cdv : Value} {A : Around} {outer : List Env} {s : Shared} {H : Hp} {E : XK} (hr : Room 0 (A.deeper (envOfC "show_numbers" (defScope s_show_numbers) s.heap.objs.size f cdv))) :
    RSs (cxOf (L2.CX P w) P w K mg base N_show_numbers "show_numbers" (defScope s_show_numbers) f cdv A outer s H E) (WF E) (defBody s_show_numbers) (tb_show_numbers) :=
  (rss_one (rs_ret (re_join (RE.p re_str) (by exact (RN.e (rn_lc sc_show_numbers.nd (ri_seq (re_var 0)) (blkOk_by (own := [("number", 1)]) (N := N_show_numbers) (sc := (defScope s_show_numbers)) (by decide +kernel)) (fun _ _ _ _ _ => (rg_name 1 sc_show_numbers.nd)) (fun _ _ _ _ _ => rts_nil) (fun _ _ _ _ _ => (re_callTy cd_strI T.b_str (rpa_cons (rp_var 1) rpa_nil)))))))))
/-! ### show_room -/
abbrev s_show_room : Stmt := topS 47
theorem sc_show_room : FnScope N_show_room ["room"] (defScope s_show_room) := ⟨rfl, rfl, rfl, by decide +kernel, rfl, by decide +kernel, by decide +kernel⟩
theorem der_show_room (T : Txt K mg a_Settles_init a_Comes_init a_is_whole a_own a_own_list a_are_wholes a_is_row a_is_room a_is_table a_Mode_init a_is_mode a_is_push a_Thing_init a_Thing_pushes a_Thing_modes a_Straight_init a_Stopped_init a_Parted_init a_words_in a_read_number a_read_numbers a_show_numbers a_show_room a_read_room a_show_rule a_rule_at a_read_rule a_show_claim a_claim_of a_read_claim a_rows_of_mode a_show_thing a_headed a_read_mode a_read_thing a__law_cell_at a__law_stream a__law_number a__law_words a__law_leaf a__law_tree a__law_rule a__law_rule_text a__law_same_rule a__law_rows a__law_room_text a__law_claims a__law_parts a__law_thing_text a__law_things a_law C_BadThing C_TooMany C_Claim C_Settles C_Comes C_Mode C_Thing C_Rule C_Straight C_Stopped C_Parted) (D_show_numbers : FD P w K mg base 1 a_show_numbers 1 [] g_show_numbers)
    {f : Addr} {cdv : Value} {A : Around} {outer : List Env} {s : Shared} {H : Hp} {E : XK} (hr : Room 1 (A.deeper (envOfC "show_room" (defScope s_show_room) s.heap.objs.size f cdv))) :
    RSs (cxOf (L2.CX P w) P w K mg base N_show_room "show_room" (defScope s_show_room) f cdv A outer s H E) (WF E) (defBody s_show_room) (tb_show_room) :=
  (rss_cons (rs_if (rt_cmp (opd_eqZ hr.units) (rp_var 0) (RE.p (re_lst ra_nil))) (rss_one (rs_ret re_str)) rss_nil) (rss_one (rs_ret (re_join (RE.p re_str) (by exact (RN.e (rn_lc sc_show_room.nd (ri_seq (re_var 0)) (blkOk_by (own := [("row", 1)]) (N := N_show_room) (sc := (defScope s_show_room)) (by decide +kernel)) (fun _ _ _ _ _ => (rg_name 1 sc_show_room.nd)) (fun _ _ _ _ _ => rts_nil) (fun _ _ _ _ _ => (re_call D_show_numbers (hr.mono (by decide)) T.f_show_numbers takes0 (ra_cons (re_var 1) ra_nil))))))))))
/-! ### read_room -/
abbrev s_read_room : Stmt := topS 48
abbrev N_read_room : List Str := ["text", "many", "part"]
theorem sc_read_room : FnScope N_read_room ["text", "many"] (defScope s_read_room) := ⟨rfl, rfl, rfl, by decide +kernel, rfl, by decide +kernel, by decide +kernel⟩
def tb_read_room (K : PySem.W.Frag) : DS :=
  (dSq (dIf (dTest (dOp kEq (dVarP 0) (dC (.str "all")))) (dRet (dLst dNil)) dNext) (dSq (dIf (dNot (dTest (dCB (kIsi K) (dCons (dVarP 0) (dCons (dC (.ty "str")) dNil))))) dNever dNext) (dRet (dFz (dLcN (dSeq (dSplit (dVarP 0) (dC (.str ", ")))) (gNm 2) dYes (dCB kTuple (dCons (dCall 2 [] g_read_numbers (dCons (dSplit (dVarP 2) (dC (.str " "))) (dCons (dOp kAdd (dVarP 1) (dC (.int 1))) dNil))) dNil)) [2])))))
theorem der_read_room (T : Txt K mg a_Settles_init a_Comes_init a_is_whole a_own a_own_list a_are_wholes a_is_row a_is_room a_is_table a_Mode_init a_is_mode a_is_push a_Thing_init a_Thing_pushes a_Thing_modes a_Straight_init a_Stopped_init a_Parted_init a_words_in a_read_number a_read_numbers a_show_numbers a_show_room a_read_room a_show_rule a_rule_at a_read_rule a_show_claim a_claim_of a_read_claim a_rows_of_mode a_show_thing a_headed a_read_mode a_read_thing a__law_cell_at a__law_stream a__law_number a__law_words a__law_leaf a__law_tree a__law_rule a__law_rule_text a__law_same_rule a__law_rows a__law_room_text a__law_claims a__law_parts a__law_thing_text a__law_things a_law C_BadThing C_TooMany C_Claim C_Settles C_Comes C_Mode C_Thing C_Rule C_Straight C_Stopped C_Parted) (D_read_numbers : FD P w K mg base 2 a_read_numbers 2 [] g_read_numbers)
    {f : Addr} {cdv : Value} {A : Around} {outer : List Env} {s : Shared} {H : Hp} {E : XK} (hr : Room 2 (A.deeper (envOfC "read_room" (defScope s_read_room) s.heap.objs.size f cdv))) :
    RSs (cxOf (L2.CX P w) P w K mg base N_read_room "read_room" (defScope s_read_room) f cdv A outer s H E) (WF E) (defBody s_read_room) (tb_read_room K) :=
  (rss_cons (rs_if (rt_cmp (opd_eq hr.units) (rp_var 0) (RE.p re_str)) (rss_one (rs_ret (re_lst ra_nil))) rss_nil) (rss_cons (rs_if (rt_not (rt_val (RE.p (re_callB (cd_isi (K := K)) T.b_isinstance (rpa_cons (rp_var 0) (rpa_cons (RE.p (re_ty T.b_str (by decide +kernel))) rpa_nil)))))) (rss_one rs_never) rss_nil) (rss_one (rs_ret (by exact (RN.e (rn_lc sc_read_room.nd (ri_seq (re_split (rp_var 0) (RE.p re_str))) (blkOk_by (own := [("part", 2)]) (N := N_read_room) (sc := (defScope s_read_room)) (by decide +kernel)) (fun _ _ _ _ _ => (rg_name 2 sc_read_room.nd)) (fun _ _ _ _ _ => rts_nil) (fun _ _ _ _ _ => (re_callTy cd_tuple T.b_tuple (rpa_cons (RE.p (re_call D_read_numbers (hr.mono (by decide)) T.f_read_numbers takes0 (ra_cons (re_split (rp_var 2) (RE.p re_str)) (ra_cons (re_op opd_add (rp_var 1) (RE.p re_int)) ra_nil)))) rpa_nil))))))))))
/-! ### show_rule -/
abbrev s_show_rule : Stmt := topS 49
abbrev N_show_rule : List Str := ["rule"]
theorem sc_show_rule : FnScope N_show_rule ["rule"] (defScope s_show_rule) := ⟨rfl, rfl, rfl, by decide +kernel, rfl, by decide +kernel, by decide +kernel⟩
def tb_show_rule (K : PySem.W.Frag) (C_Straight C_Stopped : Addr) (GG : DF) : DS :=
  (dSq (dIf (dTest (dCB (kIsi K) (dCons (dVarP 0) (dCons (dC (.cls C_Straight)) dNil)))) (dRet (dOp kAdd (dC (.str "straight ")) (dCall 1 [] g_show_numbers (dCons (dOp kAdd (dFld K "numbers" (dVar 0)) (dLst (dCons (dFld K "add" (dVar 0)) (dCons (dFld K "divisor" (dVar 0)) dNil)))) dNil)))) dNext) (dSq (dIf (dTest (dCB (kIsi K) (dCons (dVarP 0) (dCons (dC (.cls C_Stopped)) dNil)))) (dRet (dOp kAdd (dOp kAdd (dOp kAdd (dC (.str "stopped ")) (dCall 1 [] g_show_numbers (dCons (dLst (dCons (dFld K "low" (dVar 0)) (dCons (dFld K "high" (dVar 0)) dNil))) dNil))) (dC (.str " "))) (dCall 1 [] GG (dCons (dFld K "rule" (dVar 0)) dNil)))) dNext) (dRet (dOp kAdd (dOp kAdd (dOp kAdd (dOp kAdd (dOp kAdd (dC (.str "parted ")) (dCall 1 [] g_show_numbers (dCons (dFld K "row" (dVar 0)) dNil))) (dC (.str " "))) (dCall 1 [] GG (dCons (dFld K "rule" (dVar 0)) dNil))) (dC (.str " "))) (dCall 1 [] GG (dCons (dFld K "other" (dVar 0)) dNil))))))
theorem der_show_rule (T : Txt K mg a_Settles_init a_Comes_init a_is_whole a_own a_own_list a_are_wholes a_is_row a_is_room a_is_table a_Mode_init a_is_mode a_is_push a_Thing_init a_Thing_pushes a_Thing_modes a_Straight_init a_Stopped_init a_Parted_init a_words_in a_read_number a_read_numbers a_show_numbers a_show_room a_read_room a_show_rule a_rule_at a_read_rule a_show_claim a_claim_of a_read_claim a_rows_of_mode a_show_thing a_headed a_read_mode a_read_thing a__law_cell_at a__law_stream a__law_number a__law_words a__law_leaf a__law_tree a__law_rule a__law_rule_text a__law_same_rule a__law_rows a__law_room_text a__law_claims a__law_parts a__law_thing_text a__law_things a_law C_BadThing C_TooMany C_Claim C_Settles C_Comes C_Mode C_Thing C_Rule C_Straight C_Stopped C_Parted) {kk : Nat} {GG : DF} (hk : 1 ≤ kk) (D_self : FD P w K mg base kk a_show_rule 1 [] GG) (D_show_numbers : FD P w K mg base 1 a_show_numbers 1 [] g_show_numbers)
    {f : Addr} {cdv : Value} {A : Around} {outer : List Env} {s : Shared} {H : Hp} {E : XK} (hr : Room kk (A.deeper (envOfC "show_rule" (defScope s_show_rule) s.heap.objs.size f cdv))) :
    RSs (cxOf (L2.CX P w) P w K mg base N_show_rule "show_rule" (defScope s_show_rule) f cdv A outer s H E) (WF E) (defBody s_show_rule) (tb_show_rule K C_Straight C_Stopped GG) :=
  (rss_cons (rs_if (rt_val (RE.p (re_callB (cd_isi (K := K)) T.b_isinstance (rpa_cons (rp_var 0) (rpa_cons (RE.p (re_glob T.c_Straight rfl)) rpa_nil))))) (rss_one (rs_ret (re_op opd_add (RE.p re_str) (RE.p (re_call D_show_numbers (hr.mono (Nat.le_trans (by decide) hk)) T.f_show_numbers (takes_of rfl rfl rfl rfl) (ra_cons (re_op opd_add (RE.p (re_fld (K := K) (re_var 0))) (RE.p (re_lst (ra_cons (re_fld (K := K) (re_var 0)) (ra_cons (re_fld (K := K) (re_var 0)) ra_nil))))) ra_nil)))))) rss_nil) (rss_cons (rs_if (rt_val (RE.p (re_callB (cd_isi (K := K)) T.b_isinstance (rpa_cons (rp_var 0) (rpa_cons (RE.p (re_glob T.c_Stopped rfl)) rpa_nil))))) (rss_one (rs_ret (re_op opd_add (RE.p (re_op opd_add (RE.p (re_op opd_add (RE.p re_str) (RE.p (re_call D_show_numbers (hr.mono (Nat.le_trans (by decide) hk)) T.f_show_numbers (takes_of rfl rfl rfl rfl) (ra_cons (re_lst (ra_cons (re_fld (K := K) (re_var 0)) (ra_cons (re_fld (K := K) (re_var 0)) ra_nil))) ra_nil))))) (RE.p re_str))) (RE.p (re_call D_self (hr.mono (Nat.le_refl _)) T.f_show_rule (takes_of rfl rfl rfl rfl) (ra_cons (re_fld (K := K) (re_var 0)) ra_nil)))))) rss_nil) (rss_one (rs_ret (re_op opd_add (RE.p (re_op opd_add (RE.p (re_op opd_add (RE.p (re_op opd_add (RE.p (re_op opd_add (RE.p re_str) (RE.p (re_call D_show_numbers (hr.mono (Nat.le_trans (by decide) hk)) T.f_show_numbers (takes_of rfl rfl rfl rfl) (ra_cons (re_fld (K := K) (re_var 0)) ra_nil))))) (RE.p re_str))) (RE.p (re_call D_self (hr.mono (Nat.le_refl _)) T.f_show_rule (takes_of rfl rfl rfl rfl) (ra_cons (re_fld (K := K) (re_var 0)) ra_nil))))) (RE.p re_str))) (RE.p (re_call D_self (hr.mono (Nat.le_refl _)) T.f_show_rule (takes_of rfl rfl rfl rfl) (ra_cons (re_fld (K := K) (re_var 0)) ra_nil))))))))
/-! ### rule_at -/
abbrev s_rule_at : Stmt := topS 50
abbrev N_rule_at : List Str := ["words", "many", "numbers", "low", "high", "rule", "rest", "row", "other"]
theorem sc_rule_at : FnScope N_rule_at ["words", "many"] (defScope s_rule_at) := ⟨rfl, rfl, rfl, by decide +kernel, rfl, by decide +kernel, by decide +kernel⟩
def tb_rule_at (C_Straight C_Stopped C_Parted : Addr) (GG : DF) : DS :=
  (dSq (dIf (dTest (dOp kEqZ (dVarP 0) (dLst dNil))) dNever dNext) (dSq (dIf (dTest (dOp kEq (dOp kIx (dVarP 0) (dC (.int 0))) (dC (.str "straight")))) (dSq (dSet 2 (dCall 2 [] g_read_numbers (dCons (dSl (dVarP 0) (dPart (dC (.int 1))) (dPart (dOp kAdd (dVarP 1) (dC (.int 3))))) (dCons (dOp kAdd (dVarP 1) (dC (.int 2))) dNil)))) (dRet (dTup (dCons (dMake 4 C_Straight [] g_Straight_init (dCons (dSl (dVarP 2) dNoPart (dPart (dNeg (dC (.int 2))))) (dCons (dOp kIx (dVarP 2) (dNeg (dC (.int 2)))) (dCons (dOp kIx (dVarP 2) (dNeg (dC (.int 1)))) dNil)))) (dCons (dSl (dVarP 0) (dPart (dOp kAdd (dVarP 1) (dC (.int 3)))) dNoPart) dNil))))) dNext) (dSq (dIf (dTest (dOp kEq (dOp kIx (dVarP 0) (dC (.int 0))) (dC (.str "stopped")))) (dSq (dAsg (dCall 2 [] g_read_numbers (dCons (dSl (dVarP 0) (dPart (dC (.int 1))) (dPart (dC (.int 3)))) (dCons (dC (.int 2)) dNil))) (gTq 2 (gCs (gNm 3) (gCs (gNm 4) gNl)))) (dSq (dAsg (dCall 2 [] GG (dCons (dSl (dVarP 0) (dPart (dC (.int 3))) dNoPart) (dCons (dVar 1) dNil))) (gTq 2 (gCs (gNm 5) (gCs (gNm 6) gNl)))) (dRet (dTup (dCons (dMake 4 C_Stopped [] g_Stopped_init (dCons (dVar 5) (dCons (dVar 3) (dCons (dVar 4) dNil)))) (dCons (dVar 6) dNil)))))) dNext) (dSq (dIf (dTest (dOp kNe (dOp kIx (dVarP 0) (dC (.int 0))) (dC (.str "parted")))) dNever dNext) (dSq (dSet 7 (dCB kTuple (dCons (dCall 2 [] g_read_numbers (dCons (dSl (dVarP 0) (dPart (dC (.int 1))) (dPart (dOp kAdd (dVarP 1) (dC (.int 2))))) (dCons (dOp kAdd (dVarP 1) (dC (.int 1))) dNil))) dNil))) (dSq (dAsg (dCall 2 [] GG (dCons (dSl (dVarP 0) (dPart (dOp kAdd (dVarP 1) (dC (.int 2)))) dNoPart) (dCons (dVar 1) dNil))) (gTq 2 (gCs (gNm 5) (gCs (gNm 6) gNl)))) (dSq (dAsg (dCall 2 [] GG (dCons (dVar 6) (dCons (dVar 1) dNil))) (gTq 2 (gCs (gNm 8) (gCs (gNm 6) gNl)))) (dRet (dTup (dCons (dMake 4 C_Parted [] g_Parted_init (dCons (dVar 7) (dCons (dVar 5) (dCons (dVar 8) dNil)))) (dCons (dVar 6) dNil)))))))))))
theorem der_rule_at (T : Txt K mg a_Settles_init a_Comes_init a_is_whole a_own a_own_list a_are_wholes a_is_row a_is_room a_is_table a_Mode_init a_is_mode a_is_push a_Thing_init a_Thing_pushes a_Thing_modes a_Straight_init a_Stopped_init a_Parted_init a_words_in a_read_number a_read_numbers a_show_numbers a_show_room a_read_room a_show_rule a_rule_at a_read_rule a_show_claim a_claim_of a_read_claim a_rows_of_mode a_show_thing a_headed a_read_mode a_read_thing a__law_cell_at a__law_stream a__law_number a__law_words a__law_leaf a__law_tree a__law_rule a__law_rule_text a__law_same_rule a__law_rows a__law_room_text a__law_claims a__law_parts a__law_thing_text a__law_things a_law C_BadThing C_TooMany C_Claim C_Settles C_Comes C_Mode C_Thing C_Rule C_Straight C_Stopped C_Parted) {kk : Nat} {GG : DF} (hk : 3 ≤ kk) (D_self : FD P w K mg base kk a_rule_at 2 [] GG) (D_read_numbers : FD P w K mg base 2 a_read_numbers 2 [] g_read_numbers) (I_Parted : FI P w K mg base 1 C_Parted 4 [] g_Parted_init) (I_Stopped : FI P w K mg base 1 C_Stopped 4 [] g_Stopped_init) (I_Straight : FI P w K mg base 2 C_Straight 4 [] g_Straight_init)
    {f : Addr} {cdv : Value} {A : Around} {outer : List Env} {s : Shared} {H : Hp} {E : XK} (hr : Room kk (A.deeper (envOfC "rule_at" (defScope s_rule_at) s.heap.objs.size f cdv))) :
    RSs (cxOf (L2.CX P w) P w K mg base N_rule_at "rule_at" (defScope s_rule_at) f cdv A outer s H E) (WF E) (defBody s_rule_at) (tb_rule_at C_Straight C_Stopped C_Parted GG) :=
  (rss_cons (rs_if (rt_cmp (opd_eqZ hr.units) (rp_var 0) (RE.p (re_lst ra_nil))) (rss_one rs_never) rss_nil) (rss_cons (rs_if (rt_cmp (opd_eq hr.units) (RE.p (re_ix ixd_seq (rp_var 0) (RE.p re_int))) (RE.p re_str)) (rss_cons (rs_set 2 sc_rule_at.nd (re_call D_read_numbers (hr.mono (Nat.le_trans (by decide) hk)) T.f_read_numbers (takes_of rfl rfl rfl rfl) (ra_cons (re_slice (rp_var 0) (ro_some (RE.p re_int)) (ro_some (RE.p (re_op opd_add (rp_var 1) (RE.p re_int))))) (ra_cons (re_op opd_add (rp_var 1) (RE.p re_int)) ra_nil)))) (rss_one (rs_ret (re_tup (ra_cons (re_make I_Straight (hr.mono (Nat.le_trans (by decide) hk)) T.c_Straight (takes_of rfl rfl rfl rfl) (ra_cons (re_slice (rp_var 2) ro_none (ro_some (RE.p (re_neg (RE.p re_int))))) (ra_cons (re_ix ixd_seq (rp_var 2) (RE.p (re_neg (RE.p re_int)))) (ra_cons (re_ix ixd_seq (rp_var 2) (RE.p (re_neg (RE.p re_int)))) ra_nil)))) (ra_cons (re_slice (rp_var 0) (ro_some (RE.p (re_op opd_add (rp_var 1) (RE.p re_int)))) ro_none) ra_nil)))))) rss_nil) (rss_cons (rs_if (rt_cmp (opd_eq hr.units) (RE.p (re_ix ixd_seq (rp_var 0) (RE.p re_int))) (RE.p re_str)) (rss_cons (rs_asg (re_call D_read_numbers (hr.mono (Nat.le_trans (by decide) hk)) T.f_read_numbers (takes_of rfl rfl rfl rfl) (ra_cons (re_slice (rp_var 0) (ro_some (RE.p re_int)) (ro_some (RE.p re_int))) (ra_cons re_int ra_nil))) (rg_tuq (rgs_cons (rg_name 3 sc_rule_at.nd) (rgs_cons (rg_name 4 sc_rule_at.nd) rgs_nil)))) (rss_cons (rs_asg (re_call D_self (hr.mono (Nat.le_refl _)) T.f_rule_at (takes_of rfl rfl rfl rfl) (ra_cons (re_slice (rp_var 0) (ro_some (RE.p re_int)) ro_none) (ra_cons (re_var 1) ra_nil))) (rg_tuq (rgs_cons (rg_name 5 sc_rule_at.nd) (rgs_cons (rg_name 6 sc_rule_at.nd) rgs_nil)))) (rss_one (rs_ret (re_tup (ra_cons (re_make I_Stopped (hr.mono (Nat.le_trans (by decide) hk)) T.c_Stopped (takes_of rfl rfl rfl rfl) (ra_cons (re_var 5) (ra_cons (re_var 3) (ra_cons (re_var 4) ra_nil)))) (ra_cons (re_var 6) ra_nil))))))) rss_nil) (rss_cons (rs_if (rt_cmp (opd_ne hr.units) (RE.p (re_ix ixd_seq (rp_var 0) (RE.p re_int))) (RE.p re_str)) (rss_one rs_never) rss_nil) (rss_cons (rs_set 7 sc_rule_at.nd (re_callTy cd_tuple T.b_tuple (rpa_cons (RE.p (re_call D_read_numbers (hr.mono (Nat.le_trans (by decide) hk)) T.f_read_numbers (takes_of rfl rfl rfl rfl) (ra_cons (re_slice (rp_var 0) (ro_some (RE.p re_int)) (ro_some (RE.p (re_op opd_add (rp_var 1) (RE.p re_int))))) (ra_cons (re_op opd_add (rp_var 1) (RE.p re_int)) ra_nil)))) rpa_nil))) (rss_cons (rs_asg (re_call D_self (hr.mono (Nat.le_refl _)) T.f_rule_at (takes_of rfl rfl rfl rfl) (ra_cons (re_slice (rp_var 0) (ro_some (RE.p (re_op opd_add (rp_var 1) (RE.p re_int)))) ro_none) (ra_cons (re_var 1) ra_nil))) (rg_tuq (rgs_cons (rg_name 5 sc_rule_at.nd) (rgs_cons (rg_name 6 sc_rule_at.nd) rgs_nil)))) (rss_cons (rs_asg (re_call D_self (hr.mono (Nat.le_refl _)) T.f_rule_at (takes_of rfl rfl rfl rfl) (ra_cons (re_var 6) (ra_cons (re_var 1) ra_nil))) (rg_tuq (rgs_cons (rg_name 8 sc_rule_at.nd) (rgs_cons (rg_name 6 sc_rule_at.nd) rgs_nil)))) (rss_one (rs_ret (re_tup (ra_cons (re_make I_Parted (hr.mono (Nat.le_trans (by decide) hk)) T.c_Parted (takes_of rfl rfl rfl rfl) (ra_cons (re_var 7) (ra_cons (re_var 5) (ra_cons (re_var 8) ra_nil)))) (ra_cons (re_var 6) ra_nil))))))))))))
/-! ### read_rule -/
abbrev s_read_rule : Stmt := topS 51
abbrev N_read_rule : List Str := ["text", "many", "rule", "rest"]
theorem sc_read_rule : FnScope N_read_rule ["text", "many"] (defScope s_read_rule) := ⟨rfl, rfl, rfl, by decide +kernel, rfl, by decide +kernel, by decide +kernel⟩
def tb_read_rule (C_Straight C_Stopped C_Parted : Addr) : DS :=
  (dSq (dAsg (dCall 2 [] (g_atP C_Straight C_Stopped C_Parted 10) (dCons (dCall 1 [] g_words_in (dCons (dVar 0) dNil)) (dCons (dVar 1) dNil))) (gTp 2 (gCs (gNm 2) (gCs (gNm 3) gNl)))) (dSq (dIf (dTest (dOp kNe (dVarP 3) (dLst dNil))) dNever dNext) (dRet (dVar 2))))
theorem der_read_rule (T : Txt K mg a_Settles_init a_Comes_init a_is_whole a_own a_own_list a_are_wholes a_is_row a_is_room a_is_table a_Mode_init a_is_mode a_is_push a_Thing_init a_Thing_pushes a_Thing_modes a_Straight_init a_Stopped_init a_Parted_init a_words_in a_read_number a_read_numbers a_show_numbers a_show_room a_read_room a_show_rule a_rule_at a_read_rule a_show_claim a_claim_of a_read_claim a_rows_of_mode a_show_thing a_headed a_read_mode a_read_thing a__law_cell_at a__law_stream a__law_number a__law_words a__law_leaf a__law_tree a__law_rule a__law_rule_text a__law_same_rule a__law_rows a__law_room_text a__law_claims a__law_parts a__law_thing_text a__law_things a_law C_BadThing C_TooMany C_Claim C_Settles C_Comes C_Mode C_Thing C_Rule C_Straight C_Stopped C_Parted) (D_words_in : FD P w K mg base 1 a_words_in 1 [] g_words_in) (D_rule_at : FD P w K mg base 13 a_rule_at 2 [] (g_atP C_Straight C_Stopped C_Parted 10))
    {f : Addr} {cdv : Value} {A : Around} {outer : List Env} {s : Shared} {H : Hp} {E : XK} (hr : Room 13 (A.deeper (envOfC "read_rule" (defScope s_read_rule) s.heap.objs.size f cdv))) :
    RSs (cxOf (L2.CX P w) P w K mg base N_read_rule "read_rule" (defScope s_read_rule) f cdv A outer s H E) (WF E) (defBody s_read_rule) (tb_read_rule C_Straight C_Stopped C_Parted) :=
  (rss_cons (rs_asg (re_call D_rule_at (hr.mono (by decide)) T.f_rule_at (takes_of rfl rfl rfl rfl) (ra_cons (re_call D_words_in (hr.mono (by decide)) T.f_words_in (takes_of rfl rfl rfl rfl) (ra_cons (re_var 0) ra_nil)) (ra_cons (re_var 1) ra_nil))) (rg_tup (rgs_cons (rg_name 2 sc_read_rule.nd) (rgs_cons (rg_name 3 sc_read_rule.nd) rgs_nil)))) (rss_cons (rs_if (rt_cmp (opd_ne hr.units) (rp_var 3) (RE.p (re_lst ra_nil))) (rss_one rs_never) rss_nil) (rss_one (rs_ret (re_var 2)))))
/-! ### show_claim -/
abbrev s_show_claim : Stmt := topS 52
abbrev N_show_claim : List Str := ["claim"]
theorem sc_show_claim : FnScope N_show_claim ["claim"] (defScope s_show_claim) := ⟨rfl, rfl, rfl, by decide +kernel, rfl, by decide +kernel, by decide +kernel⟩
def tb_show_claim (K : PySem.W.Frag) (C_Settles : Addr) : DS :=
  (dSq (dIf (dTest (dCB (kIsi K) (dCons (dVarP 0) (dCons (dC (.cls C_Settles)) dNil)))) (dRet (dJoin (dC (.str " | ")) (dLst (dCons (dOp kAdd (dC (.str "settles ")) (dCB kStrI (dCons (dFld K "turn" (dVar 0)) dNil))) (dCons (dCall 1 [] g_show_room (dCons (dFld K "start" (dVar 0)) dNil)) (dCons (dCall 1 [] g_show_room (dCons (dFld K "rows" (dVar 0)) dNil)) dNil)))))) dNext) (dRet (dJoin (dC (.str " | ")) (dLst (dCons (dOp kAdd (dC (.str "comes ")) (dCB kStrI (dCons (dFld K "turns" (dVar 0)) dNil))) (dCons (dCall 1 [] g_show_room (dCons (dFld K "start" (dVar 0)) dNil)) (dCons (dCall 1 [] g_show_room (dCons (dFld K "goal" (dVar 0)) dNil)) dNil)))))))
theorem der_show_claim (T : Txt K mg a_Settles_init a_Comes_init a_is_whole a_own a_own_list a_are_wholes a_is_row a_is_room a_is_table a_Mode_init a_is_mode a_is_push a_Thing_init a_Thing_pushes a_Thing_modes a_Straight_init a_Stopped_init a_Parted_init a_words_in a_read_number a_read_numbers a_show_numbers a_show_room a_read_room a_show_rule a_rule_at a_read_rule a_show_claim a_claim_of a_read_claim a_rows_of_mode a_show_thing a_headed a_read_mode a_read_thing a__law_cell_at a__law_stream a__law_number a__law_words a__law_leaf a__law_tree a__law_rule a__law_rule_text a__law_same_rule a__law_rows a__law_room_text a__law_claims a__law_parts a__law_thing_text a__law_things a_law C_BadThing C_TooMany C_Claim C_Settles C_Comes C_Mode C_Thing C_Rule C_Straight C_Stopped C_Parted) (D_show_room : FD P w K mg base 2 a_show_room 1 [] g_show_room)
    {f : Addr} {cdv : Value} {A : Around} {outer : List Env} {s : Shared} {H : Hp} {E : XK} (hr : Room 2 (A.deeper (envOfC "show_claim" (defScope s_show_claim) s.heap.objs.size f cdv))) :
    RSs (cxOf (L2.CX P w) P w K mg base N_show_claim "show_claim" (defScope s_show_claim) f cdv A outer s H E) (WF E) (defBody s_show_claim) (tb_show_claim K C_Settles) :=
  (rss_cons (rs_if (rt_val (RE.p (re_callB (cd_isi (K := K)) T.b_isinstance (rpa_cons (rp_var 0) (rpa_cons (RE.p (re_glob T.c_Settles rfl)) rpa_nil))))) (rss_one (rs_ret (re_join (RE.p re_str) (re_lst (ra_cons (re_op opd_add (RE.p re_str) (RE.p (re_callTy cd_strI T.b_str (rpa_cons (RE.p (re_fld (K := K) (re_var 0))) rpa_nil)))) (ra_cons (re_call D_show_room (hr.mono (by decide)) T.f_show_room (takes_of rfl rfl rfl rfl) (ra_cons (re_fld (K := K) (re_var 0)) ra_nil)) (ra_cons (re_call D_show_room (hr.mono (by decide)) T.f_show_room (takes_of rfl rfl rfl rfl) (ra_cons (re_fld (K := K) (re_var 0)) ra_nil)) ra_nil))))))) rss_nil) (rss_one (rs_ret (re_join (RE.p re_str) (re_lst (ra_cons (re_op opd_add (RE.p re_str) (RE.p (re_callTy cd_strI T.b_str (rpa_cons (RE.p (re_fld (K := K) (re_var 0))) rpa_nil)))) (ra_cons (re_call D_show_room (hr.mono (by decide)) T.f_show_room (takes_of rfl rfl rfl rfl) (ra_cons (re_fld (K := K) (re_var 0)) ra_nil)) (ra_cons (re_call D_show_room (hr.mono (by decide)) T.f_show_room (takes_of rfl rfl rfl rfl) (ra_cons (re_fld (K := K) (re_var 0)) ra_nil)) ra_nil))))))))
/-! ### claim_of -/
abbrev s_claim_of : Stmt := topS 53
abbrev N_claim_of : List Str := ["parts", "many", "word", "blank", "turn", "number", "start"]
theorem sc_claim_of : FnScope N_claim_of ["parts", "many"] (defScope s_claim_of) := ⟨rfl, rfl, rfl, by decide +kernel, rfl, by decide +kernel, by decide +kernel⟩
def tb_claim_of (C_Settles C_Comes : Addr) : DS :=
  (dSq (dIf (dTest (dOp kNe (dCB kLen (dCons (dVarP 0) dNil)) (dC (.int 3)))) dNever dNext) (dSq (dAsg (dPartn (dOp kIx (dVarP 0) (dC (.int 0))) (dC (.str " "))) (gTp 3 (gCs (gNm 2) (gCs (gNm 3) (gCs (gNm 4) gNl))))) (dSq (dIf (dAnd (dTest (dOp kNe (dVarP 2) (dC (.str "settles")))) (dTest (dOp kNe (dVarP 2) (dC (.str "comes"))))) dNever dNext) (dSq (dSet 5 (dCall 1 [] g_read_number (dCons (dVar 4) dNil))) (dSq (dIf (dTest (dOp kLt (dVarP 5) (dC (.int 0)))) dNever dNext) (dSq (dSet 6 (dCall 2 [] g_read_room (dCons (dOp kIx (dVarP 0) (dC (.int 1))) (dCons (dVar 1) dNil)))) (dSq (dIf (dTest (dOp kEq (dVarP 2) (dC (.str "settles")))) (dRet (dMake 4 C_Settles [] g_Settles_init (dCons (dVar 6) (dCons (dCall 2 [] g_read_room (dCons (dOp kIx (dVarP 0) (dC (.int 2))) (dCons (dVar 1) dNil))) (dCons (dVar 5) dNil))))) dNext) (dRet (dMake 4 C_Comes [] g_Comes_init (dCons (dVar 6) (dCons (dCall 2 [] g_read_room (dCons (dOp kIx (dVarP 0) (dC (.int 2))) (dCons (dVar 1) dNil))) (dCons (dVar 5) dNil))))))))))))
theorem der_claim_of (T : Txt K mg a_Settles_init a_Comes_init a_is_whole a_own a_own_list a_are_wholes a_is_row a_is_room a_is_table a_Mode_init a_is_mode a_is_push a_Thing_init a_Thing_pushes a_Thing_modes a_Straight_init a_Stopped_init a_Parted_init a_words_in a_read_number a_read_numbers a_show_numbers a_show_room a_read_room a_show_rule a_rule_at a_read_rule a_show_claim a_claim_of a_read_claim a_rows_of_mode a_show_thing a_headed a_read_mode a_read_thing a__law_cell_at a__law_stream a__law_number a__law_words a__law_leaf a__law_tree a__law_rule a__law_rule_text a__law_same_rule a__law_rows a__law_room_text a__law_claims a__law_parts a__law_thing_text a__law_things a_law C_BadThing C_TooMany C_Claim C_Settles C_Comes C_Mode C_Thing C_Rule C_Straight C_Stopped C_Parted) (D_read_number : FD P w K mg base 1 a_read_number 1 [] g_read_number) (D_read_room : FD P w K mg base 3 a_read_room 2 [] g_read_room) (I_Comes : FI P w K mg base 1 C_Comes 4 [] g_Comes_init) (I_Settles : FI P w K mg base 1 C_Settles 4 [] g_Settles_init)
    {f : Addr} {cdv : Value} {A : Around} {outer : List Env} {s : Shared} {H : Hp} {E : XK} (hr : Room 3 (A.deeper (envOfC "claim_of" (defScope s_claim_of) s.heap.objs.size f cdv))) :
    RSs (cxOf (L2.CX P w) P w K mg base N_claim_of "claim_of" (defScope s_claim_of) f cdv A outer s H E) (WF E) (defBody s_claim_of) (tb_claim_of C_Settles C_Comes) :=
  (rss_cons (rs_if (rt_cmp (opd_ne hr.units) (RE.p (re_callB cd_len T.b_len (rpa_cons (rp_var 0) rpa_nil))) (RE.p re_int)) (rss_one rs_never) rss_nil) (rss_cons (rs_asg (re_partition (RE.p (re_ix ixd_seq (rp_var 0) (RE.p re_int))) (RE.p re_str)) (rg_tup (rgs_cons (rg_name 2 sc_claim_of.nd) (rgs_cons (rg_name 3 sc_claim_of.nd) (rgs_cons (rg_name 4 sc_claim_of.nd) rgs_nil))))) (rss_cons (rs_if (RW.toT (rw_and (rt_cmp (opd_ne hr.units) (rp_var 2) (RE.p re_str)) (rw_and1 (rt_cmp (opd_ne hr.units) (rp_var 2) (RE.p re_str))))) (rss_one rs_never) rss_nil) (rss_cons (rs_set 5 sc_claim_of.nd (re_call D_read_number (hr.mono (by decide)) T.f_read_number (takes_of rfl rfl rfl rfl) (ra_cons (re_var 4) ra_nil))) (rss_cons (rs_if (rt_cmp opd_lt (rp_var 5) (RE.p re_int)) (rss_one rs_never) rss_nil) (rss_cons (rs_set 6 sc_claim_of.nd (re_call D_read_room (hr.mono (by decide)) T.f_read_room (takes_of rfl rfl rfl rfl) (ra_cons (re_ix ixd_seq (rp_var 0) (RE.p re_int)) (ra_cons (re_var 1) ra_nil)))) (rss_cons (rs_if (rt_cmp (opd_eq hr.units) (rp_var 2) (RE.p re_str)) (rss_one (rs_ret (re_make I_Settles (hr.mono (by decide)) T.c_Settles (takes_of rfl rfl rfl rfl) (ra_cons (re_var 6) (ra_cons (re_call D_read_room (hr.mono (by decide)) T.f_read_room (takes_of rfl rfl rfl rfl) (ra_cons (re_ix ixd_seq (rp_var 0) (RE.p re_int)) (ra_cons (re_var 1) ra_nil))) (ra_cons (re_var 5) ra_nil)))))) rss_nil) (rss_one (rs_ret (re_make I_Comes (hr.mono (by decide)) T.c_Comes (takes_of rfl rfl rfl rfl) (ra_cons (re_var 6) (ra_cons (re_call D_read_room (hr.mono (by decide)) T.f_read_room (takes_of rfl rfl rfl rfl) (ra_cons (re_ix ixd_seq (rp_var 0) (RE.p re_int)) (ra_cons (re_var 1) ra_nil))) (ra_cons (re_var 5) ra_nil)))))))))))))
/-! ### read_claim -/
abbrev s_read_claim : Stmt := topS 54
abbrev N_read_claim : List Str := ["text", "many"]
theorem sc_read_claim : FnScope N_read_claim ["text", "many"] (defScope s_read_claim) := ⟨rfl, rfl, rfl, by decide +kernel, rfl, by decide +kernel, by decide +kernel⟩
def tb_read_claim (K : PySem.W.Frag) (C_Settles C_Comes : Addr) : DS :=
  (dSq (dIf (dNot (dTest (dCB (kIsi K) (dCons (dVarP 0) (dCons (dC (.ty "str")) dNil))))) dNever dNext) (dRet (dCall 2 [] (g_claim_of C_Settles C_Comes) (dCons (dSplit (dVarP 0) (dC (.str " | "))) (dCons (dVar 1) dNil)))))
theorem der_read_claim (T : Txt K mg a_Settles_init a_Comes_init a_is_whole a_own a_own_list a_are_wholes a_is_row a_is_room a_is_table a_Mode_init a_is_mode a_is_push a_Thing_init a_Thing_pushes a_Thing_modes a_Straight_init a_Stopped_init a_Parted_init a_words_in a_read_number a_read_numbers a_show_numbers a_show_room a_read_room a_show_rule a_rule_at a_read_rule a_show_claim a_claim_of a_read_claim a_rows_of_mode a_show_thing a_headed a_read_mode a_read_thing a__law_cell_at a__law_stream a__law_number a__law_words a__law_leaf a__law_tree a__law_rule a__law_rule_text a__law_same_rule a__law_rows a__law_room_text a__law_claims a__law_parts a__law_thing_text a__law_things a_law C_BadThing C_TooMany C_Claim C_Settles C_Comes C_Mode C_Thing C_Rule C_Straight C_Stopped C_Parted) (D_claim_of : FD P w K mg base 4 a_claim_of 2 [] (g_claim_of C_Settles C_Comes))
    {f : Addr} {cdv : Value} {A : Around} {outer : List Env} {s : Shared} {H : Hp} {E : XK} (hr : Room 4 (A.deeper (envOfC "read_claim" (defScope s_read_claim) s.heap.objs.size f cdv))) :
    RSs (cxOf (L2.CX P w) P w K mg base N_read_claim "read_claim" (defScope s_read_claim) f cdv A outer s H E) (WF E) (defBody s_read_claim) (tb_read_claim K C_Settles C_Comes) :=
  (rss_cons (rs_if (rt_not (rt_val (RE.p (re_callB (cd_isi (K := K)) T.b_isinstance (rpa_cons (rp_var 0) (rpa_cons (RE.p (re_ty T.b_str (by decide +kernel))) rpa_nil)))))) (rss_one rs_never) rss_nil) (rss_one (rs_ret (re_call D_claim_of (hr.mono (by decide)) T.f_claim_of (takes_of rfl rfl rfl rfl) (ra_cons (re_split (rp_var 0) (RE.p re_str)) (ra_cons (re_var 1) ra_nil))))))
/-! ### rows_of_mode -/
abbrev s_rows_of_mode : Stmt := topS 55
abbrev N_rows_of_mode : List Str := ["mode", "rows", "row", "i"]
theorem sc_rows_of_mode : FnScope N_rows_of_mode ["mode"] (defScope s_rows_of_mode) := ⟨rfl, rfl, rfl, by decide +kernel, rfl, by decide +kernel, by decide +kernel⟩
def tb_rows_of_mode (K : PySem.W.Frag) : DS :=
  (dSq (dOwn 1 (dLstN (dCons (dOp kAdd (dC (.str "mode ")) (dCB kStrI (dCons (dFld K "divisor" (dVar 0)) dNil))) dNil))) (dSq (dFor (dSeq (dFld K "rows" (dVar 0))) (gNm 2) (dApp 1 (dOp kAdd (dC (.str "row ")) (dCall 1 [] g_show_numbers (dCons (dVar 2) dNil))))) (dSq (dFor (dRng1 (dCB kLen (dCons (dFld K "nexts" (dVar 0)) dNil))) (gNm 3) (dApp 1 (dOp kAdd (dC (.str "next ")) (dCall 1 [] g_show_numbers (dCons (dOp kAdd (dOp kAdd (dOp kAdd (dOp kIx (dFld K "nexts" (dVar 0)) (dVarP 3)) (dLst (dCons (dOp kIx (dFld K "steer" (dVar 0)) (dVarP 3)) dNil))) (dOp kIx (dFld K "push" (dVar 0)) (dVarP 3))) (dLst (dCons (dOp kIx (dFld K "add" (dVar 0)) (dVarP 3)) dNil))) dNil))))) (dFrz 1 (dRet (dVar 1))))))
theorem der_rows_of_mode (T : Txt K mg a_Settles_init a_Comes_init a_is_whole a_own a_own_list a_are_wholes a_is_row a_is_room a_is_table a_Mode_init a_is_mode a_is_push a_Thing_init a_Thing_pushes a_Thing_modes a_Straight_init a_Stopped_init a_Parted_init a_words_in a_read_number a_read_numbers a_show_numbers a_show_room a_read_room a_show_rule a_rule_at a_read_rule a_show_claim a_claim_of a_read_claim a_rows_of_mode a_show_thing a_headed a_read_mode a_read_thing a__law_cell_at a__law_stream a__law_number a__law_words a__law_leaf a__law_tree a__law_rule a__law_rule_text a__law_same_rule a__law_rows a__law_room_text a__law_claims a__law_parts a__law_thing_text a__law_things a_law C_BadThing C_TooMany C_Claim C_Settles C_Comes C_Mode C_Thing C_Rule C_Straight C_Stopped C_Parted) (D_show_numbers : FD P w K mg base 1 a_show_numbers 1 [] g_show_numbers)
    {f : Addr} {cdv : Value} {A : Around} {outer : List Env} {s : Shared} {H : Hp} {E : XK} (hr : Room 1 (A.deeper (envOfC "rows_of_mode" (defScope s_rows_of_mode) s.heap.objs.size f cdv))) :
    RSs (cxOf (L2.CX P w) P w K mg base N_rows_of_mode "rows_of_mode" (defScope s_rows_of_mode) f cdv A outer s H E) (WF E) (defBody s_rows_of_mode) (tb_rows_of_mode K) :=
  (rss_cons (rs_own 1 sc_rows_of_mode.nd (rn_lst (ra_cons (re_op opd_add (RE.p re_str) (RE.p (re_callTy cd_strI T.b_str (rpa_cons (RE.p (re_fld (K := K) (re_var 0))) rpa_nil)))) ra_nil))) (rss_cons (rs_for (passes_of rfl) (ri_seq (re_fld (K := K) (re_var 0))) (rg_name 2 sc_rows_of_mode.nd) (rss_one (rs_app 1 (re_op opd_add (RE.p re_str) (RE.p (re_call D_show_numbers (hr.mono (by decide)) T.f_show_numbers (takes_of rfl rfl rfl rfl) (ra_cons (re_var 2) ra_nil))))))) (rss_cons (rs_for (passes_of rfl) (ri_range1 (RE.p (re_callB cd_len T.b_len (rpa_cons (RE.p (re_fld (K := K) (re_var 0))) rpa_nil))) T.b_range) (rg_name 3 sc_rows_of_mode.nd) (rss_one (rs_app 1 (re_op opd_add (RE.p re_str) (RE.p (re_call D_show_numbers (hr.mono (by decide)) T.f_show_numbers (takes_of rfl rfl rfl rfl) (ra_cons (re_op opd_add (RE.p (re_op opd_add (RE.p (re_op opd_add (RE.p (re_ix ixd_seq (RE.p (re_fld (K := K) (re_var 0))) (rp_var 3))) (RE.p (re_lst (ra_cons (re_ix ixd_seq (RE.p (re_fld (K := K) (re_var 0))) (rp_var 3)) ra_nil))))) (RE.p (re_ix ixd_seq (RE.p (re_fld (K := K) (re_var 0))) (rp_var 3))))) (RE.p (re_lst (ra_cons (re_ix ixd_seq (RE.p (re_fld (K := K) (re_var 0))) (rp_var 3)) ra_nil)))) ra_nil))))))) (rss_frz 1 (rss_one (rs_ret (re_var 1)))))))
/-! ### show_thing -/
abbrev s_show_thing : Stmt := topS 56
abbrev N_show_thing : List Str := ["thing", "rows", "low", "high", "mode"]
theorem sc_show_thing : FnScope N_show_thing ["thing"] (defScope s_show_thing) := ⟨rfl, rfl, rfl, by decide +kernel, rfl, by decide +kernel, by decide +kernel⟩
def tb_show_thing (K : PySem.W.Frag) (C_Thing C_Mode : Addr) : DS :=
  (dSq (dOwn 1 (dLstN (dCons (dOp kAdd (dC (.str "numbers ")) (dCB kStrI (dCons (dFld K "many" (dVar 0)) dNil))) dNil))) (dSq (dFor (dSeq (dMeth C_Thing "pushes" 1 (g_Thing_pushes C_Thing) (dVar 0) dNil)) (gTp 2 (gCs (gNm 2) (gCs (gNm 3) gNl))) (dApp 1 (dOp kAdd (dOp kAdd (dOp kAdd (dC (.str "push ")) (dCB kStrI (dCons (dVarP 2) dNil))) (dC (.str " "))) (dCB kStrI (dCons (dVarP 3) dNil))))) (dSq (dFor (dSeq (dMeth C_Thing "modes" 1 (g_Thing_modes C_Thing) (dVar 0) dNil)) (gNm 4) (dOwn 1 (dAddN (dVarP 1) (dCall 1 [] (g_rows_of_mode C_Mode) (dCons (dVar 4) dNil))))) (dFrz 1 (dRet (dJoin (dC (.str "\n")) (dVar 1)))))))
theorem der_show_thing (T : Txt K mg a_Settles_init a_Comes_init a_is_whole a_own a_own_list a_are_wholes a_is_row a_is_room a_is_table a_Mode_init a_is_mode a_is_push a_Thing_init a_Thing_pushes a_Thing_modes a_Straight_init a_Stopped_init a_Parted_init a_words_in a_read_number a_read_numbers a_show_numbers a_show_room a_read_room a_show_rule a_rule_at a_read_rule a_show_claim a_claim_of a_read_claim a_rows_of_mode a_show_thing a_headed a_read_mode a_read_thing a__law_cell_at a__law_stream a__law_number a__law_words a__law_leaf a__law_tree a__law_rule a__law_rule_text a__law_same_rule a__law_rows a__law_room_text a__law_claims a__law_parts a__law_thing_text a__law_things a_law C_BadThing C_TooMany C_Claim C_Settles C_Comes C_Mode C_Thing C_Rule C_Straight C_Stopped C_Parted) (D_rows_of_mode : FD P w K mg base 2 a_rows_of_mode 1 [] (g_rows_of_mode C_Mode)) (M_Thing_modes : FN P w K mg base 1 a_Thing_modes 1 (g_Thing_modes C_Thing)) (M_Thing_pushes : FN P w K mg base 1 a_Thing_pushes 1 (g_Thing_pushes C_Thing))
    {f : Addr} {cdv : Value} {A : Around} {outer : List Env} {s : Shared} {H : Hp} {E : XK} (hr : Room 2 (A.deeper (envOfC "show_thing" (defScope s_show_thing) s.heap.objs.size f cdv))) :
    RSs (cxOf (L2.CX P w) P w K mg base N_show_thing "show_thing" (defScope s_show_thing) f cdv A outer s H E) (WF E) (defBody s_show_thing) (tb_show_thing K C_Thing C_Mode) :=
  (rss_cons (rs_own 1 sc_show_thing.nd (rn_lst (ra_cons (re_op opd_add (RE.p re_str) (RE.p (re_callTy cd_strI T.b_str (rpa_cons (RE.p (re_fld (K := K) (re_var 0))) rpa_nil)))) ra_nil))) (rss_cons (rs_for (passes_of rfl) (ri_seq (re_meth0 (re_var 0) T.l_Thing T.m_Thing_pushes M_Thing_pushes (hr.mono (by decide)) (takes_of rfl rfl rfl rfl))) (rg_tup (rgs_cons (rg_name 2 sc_show_thing.nd) (rgs_cons (rg_name 3 sc_show_thing.nd) rgs_nil))) (rss_one (rs_app 1 (re_op opd_add (RE.p (re_op opd_add (RE.p (re_op opd_add (RE.p re_str) (RE.p (re_callTy cd_strI T.b_str (rpa_cons (rp_var 2) rpa_nil))))) (RE.p re_str))) (RE.p (re_callTy cd_strI T.b_str (rpa_cons (rp_var 3) rpa_nil))))))) (rss_cons (rs_for (passes_of rfl) (ri_seq (re_meth0 (re_var 0) T.l_Thing T.m_Thing_modes M_Thing_modes (hr.mono (by decide)) (takes_of rfl rfl rfl rfl))) (rg_name 4 sc_show_thing.nd) (rss_one (rs_own 1 sc_show_thing.nd (rn_addL (rp_var 1) (RE.p (re_call D_rows_of_mode (hr.mono (by decide)) T.f_rows_of_mode (takes_of rfl rfl rfl rfl) (ra_cons (re_var 4) ra_nil))))))) (rss_frz 1 (rss_one (rs_ret (re_join (RE.p re_str) (re_var 1))))))))
/-! ### headed -/
abbrev s_headed : Stmt := topS 57
abbrev N_headed : List Str := ["rows", "at", "word", "found"]
theorem sc_headed : FnScope N_headed ["rows", "at", "word"] (defScope s_headed) := ⟨rfl, rfl, rfl, by decide +kernel, rfl, by decide +kernel, by decide +kernel⟩
def tb_headed  : DS :=
  (dSq (dOwn 3 (dLstN dNil)) (dSq (dWhile (dAnd (dTest (dOp kLt (dOp kAdd (dVarP 1) (dCB kLen (dCons (dVarP 3) dNil))) (dCB kLen (dCons (dVarP 0) dNil)))) (dTest (dOp kEq (dOp kIx (dOp kIx (dVarP 0) (dOp kAdd (dVarP 1) (dCB kLen (dCons (dVarP 3) dNil)))) (dC (.int 0))) (dVarP 2)))) (dApp 3 (dSl (dOp kIx (dVarP 0) (dOp kAdd (dVarP 1) (dCB kLen (dCons (dVarP 3) dNil)))) (dPart (dC (.int 1))) dNoPart))) (dFrz 3 (dRet (dVar 3)))))
theorem der_headed (T : Txt K mg a_Settles_init a_Comes_init a_is_whole a_own a_own_list a_are_wholes a_is_row a_is_room a_is_table a_Mode_init a_is_mode a_is_push a_Thing_init a_Thing_pushes a_Thing_modes a_Straight_init a_Stopped_init a_Parted_init a_words_in a_read_number a_read_numbers a_show_numbers a_show_room a_read_room a_show_rule a_rule_at a_read_rule a_show_claim a_claim_of a_read_claim a_rows_of_mode a_show_thing a_headed a_read_mode a_read_thing a__law_cell_at a__law_stream a__law_number a__law_words a__law_leaf a__law_tree a__law_rule a__law_rule_text a__law_same_rule a__law_rows a__law_room_text a__law_claims a__law_parts a__law_thing_text a__law_things a_law C_BadThing C_TooMany C_Claim C_Settles C_Comes C_Mode C_Thing C_Rule C_Straight C_Stopped C_Parted) 
    {f : Addr} {cdv : Value} {A : Around} {outer : List Env} {s : Shared} {H : Hp} {E : XK} (hr : Room 0 (A.deeper (envOfC "headed" (defScope s_headed) s.heap.objs.size f cdv))) :
    RSs (cxOf (L2.CX P w) P w K mg base N_headed "headed" (defScope s_headed) f cdv A outer s H E) (WF E) (defBody s_headed) (tb_headed) :=
  (rss_cons (rs_own 3 sc_headed.nd (rn_lst ra_nil)) (rss_cons (rs_while (passes_of rfl) (RW.toT (rw_and (rt_cmp opd_lt (RE.p (re_op opd_add (rp_var 1) (RE.p (re_callB cd_len T.b_len (rpa_cons (rp_var 3) rpa_nil))))) (RE.p (re_callB cd_len T.b_len (rpa_cons (rp_var 0) rpa_nil)))) (rw_and1 (rt_cmp (opd_eq hr.units) (RE.p (re_ix ixd_seq (RE.p (re_ix ixd_seq (rp_var 0) (RE.p (re_op opd_add (rp_var 1) (RE.p (re_callB cd_len T.b_len (rpa_cons (rp_var 3) rpa_nil))))))) (RE.p re_int))) (rp_var 2))))) (rss_one (rs_app 3 (re_slice (RE.p (re_ix ixd_seq (rp_var 0) (RE.p (re_op opd_add (rp_var 1) (RE.p (re_callB cd_len T.b_len (rpa_cons (rp_var 3) rpa_nil))))))) (ro_some (RE.p re_int)) ro_none)))) (rss_frz 3 (rss_one (rs_ret (re_var 3))))))
/-! ### read_mode -/
abbrev s_read_mode : Stmt := topS 58
abbrev N_read_mode : List Str := ["rows", "at", "many", "wide", "divisor", "held", "words", "lines", "sums", "nexts", "numbers", "steer", "push", "mode"]
theorem sc_read_mode : FnScope N_read_mode ["rows", "at", "many", "wide"] (defScope s_read_mode) := ⟨rfl, rfl, rfl, by decide +kernel, rfl, by decide +kernel, by decide +kernel⟩
def tb_read_mode (C_Mode : Addr) : DS :=
  (dSq (dIf (dTest (dOp kNe (dOp kIx (dOp kIx (dVarP 0) (dVarP 1)) (dC (.int 0))) (dC (.str "mode")))) dNever dNext) (dSq (dSet 4 (dOp kIx (dCall 2 [] g_read_numbers (dCons (dSl (dOp kIx (dVarP 0) (dVarP 1)) (dPart (dC (.int 1))) dNoPart) (dCons (dC (.int 1)) dNil))) (dC (.int 0)))) (dSq (dSet 5 (dLc (dSeq (dCall 3 [] g_headed (dCons (dVar 0) (dCons (dOp kAdd (dVarP 1) (dC (.int 1))) (dCons (dC (.str "row")) dNil))))) (gNm 6) dYes (dCB kTuple (dCons (dCall 2 [] g_read_numbers (dCons (dVar 6) (dCons (dOp kAdd (dVarP 2) (dC (.int 1))) dNil))) dNil)) [6])) (dSq (dSet 7 (dCall 3 [] g_headed (dCons (dVar 0) (dCons (dOp kAdd (dOp kAdd (dVarP 1) (dC (.int 1))) (dCB kLen (dCons (dVarP 5) dNil))) (dCons (dC (.str "next")) dNil))))) (dSq (dIf (dTest (dOp kNe (dCB kLen (dCons (dVarP 7) dNil)) (dVarP 2))) dNever dNext) (dSq (dSet 8 (dLc (dSeq (dVar 7)) (gNm 6) dYes (dCall 2 [] g_read_numbers (dCons (dVar 6) (dCons (dOp kAdd (dOp kAdd (dVarP 2) (dVarP 3)) (dC (.int 2))) dNil))) [6])) (dSq (dSet 9 (dLc (dSeq (dVar 8)) (gNm 10) dYes (dSl (dVarP 10) dNoPart (dPart (dVarP 2))) [10])) (dSq (dSet 11 (dLc (dSeq (dVar 8)) (gNm 10) dYes (dOp kIx (dVarP 10) (dVarP 2)) [10])) (dSq (dSet 12 (dLc (dSeq (dVar 8)) (gNm 10) dYes (dSl (dVarP 10) (dPart (dOp kAdd (dVarP 2) (dC (.int 1)))) (dPart (dNeg (dC (.int 1))))) [10])) (dSq (dSet 13 (dMake 7 C_Mode [] g_Mode_init (dCons (dVar 5) (dCons (dVar 9) (dCons (dVar 11) (dCons (dVar 12) (dCons (dFz (dLcN (dSeq (dVar 8)) (gNm 10) dYes (dOp kIx (dVarP 10) (dNeg (dC (.int 1)))) [10])) (dCons (dVar 4) dNil)))))))) (dRet (dTup (dCons (dVar 13) (dCons (dOp kAdd (dOp kAdd (dOp kAdd (dVarP 1) (dC (.int 1))) (dCB kLen (dCons (dVarP 5) dNil))) (dVarP 2)) dNil))))))))))))))
theorem der_read_mode (T : Txt K mg a_Settles_init a_Comes_init a_is_whole a_own a_own_list a_are_wholes a_is_row a_is_room a_is_table a_Mode_init a_is_mode a_is_push a_Thing_init a_Thing_pushes a_Thing_modes a_Straight_init a_Stopped_init a_Parted_init a_words_in a_read_number a_read_numbers a_show_numbers a_show_room a_read_room a_show_rule a_rule_at a_read_rule a_show_claim a_claim_of a_read_claim a_rows_of_mode a_show_thing a_headed a_read_mode a_read_thing a__law_cell_at a__law_stream a__law_number a__law_words a__law_leaf a__law_tree a__law_rule a__law_rule_text a__law_same_rule a__law_rows a__law_room_text a__law_claims a__law_parts a__law_thing_text a__law_things a_law C_BadThing C_TooMany C_Claim C_Settles C_Comes C_Mode C_Thing C_Rule C_Straight C_Stopped C_Parted) (D_read_numbers : FD P w K mg base 2 a_read_numbers 2 [] g_read_numbers) (D_headed : FD P w K mg base 1 a_headed 3 [] g_headed) (I_Mode : FI P w K mg base 3 C_Mode 7 [] g_Mode_init)
    {f : Addr} {cdv : Value} {A : Around} {outer : List Env} {s : Shared} {H : Hp} {E : XK} (hr : Room 4 (A.deeper (envOfC "read_mode" (defScope s_read_mode) s.heap.objs.size f cdv))) :
    RSs (cxOf (L2.CX P w) P w K mg base N_read_mode "read_mode" (defScope s_read_mode) f cdv A outer s H E) (WF E) (defBody s_read_mode) (tb_read_mode C_Mode) :=
  (rss_cons (rs_if (rt_cmp (opd_ne hr.units) (RE.p (re_ix ixd_seq (RE.p (re_ix ixd_seq (rp_var 0) (rp_var 1))) (RE.p re_int))) (RE.p re_str)) (rss_one rs_never) rss_nil) (rss_cons (rs_set 4 sc_read_mode.nd (re_ix ixd_seq (RE.p (re_call D_read_numbers (hr.mono (by decide)) T.f_read_numbers (takes_of rfl rfl rfl rfl) (ra_cons (re_slice (RE.p (re_ix ixd_seq (rp_var 0) (rp_var 1))) (ro_some (RE.p re_int)) ro_none) (ra_cons re_int ra_nil)))) (RE.p re_int))) (rss_cons (rs_setLc 5 sc_read_mode.nd (ri_seq (re_call D_headed (hr.mono (by decide)) T.f_headed (takes_of rfl rfl rfl rfl) (ra_cons (re_var 0) (ra_cons (re_op opd_add (rp_var 1) (RE.p re_int)) (ra_cons re_str ra_nil))))) (blkOk_by (own := [("words", 6)]) (N := N_read_mode) (sc := (defScope s_read_mode)) (by decide +kernel)) (fun _ _ _ _ _ => (rg_name 6 sc_read_mode.nd)) (fun _ _ _ _ _ => rts_nil) (fun _ _ _ _ _ => (re_callTy cd_tuple T.b_tuple (rpa_cons (RE.p (re_call D_read_numbers (hr.mono (by decide)) T.f_read_numbers takes0 (ra_cons (re_var 6) (ra_cons (re_op opd_add (rp_var 2) (RE.p re_int)) ra_nil)))) rpa_nil))) (sw_true rfl rfl rfl (by decide +kernel))) (rss_cons (rs_set 7 sc_read_mode.nd (re_call D_headed (hr.mono (by decide)) T.f_headed (takes_of rfl rfl rfl rfl) (ra_cons (re_var 0) (ra_cons (re_op opd_add (RE.p (re_op opd_add (rp_var 1) (RE.p re_int))) (RE.p (re_callB cd_len T.b_len (rpa_cons (rp_var 5) rpa_nil)))) (ra_cons re_str ra_nil))))) (rss_cons (rs_if (rt_cmp (opd_ne hr.units) (RE.p (re_callB cd_len T.b_len (rpa_cons (rp_var 7) rpa_nil))) (rp_var 2)) (rss_one rs_never) rss_nil) (rss_cons (rs_setLc 8 sc_read_mode.nd (ri_seq (re_var 7)) (blkOk_by (own := [("words", 6)]) (N := N_read_mode) (sc := (defScope s_read_mode)) (by decide +kernel)) (fun _ _ _ _ _ => (rg_name 6 sc_read_mode.nd)) (fun _ _ _ _ _ => rts_nil) (fun _ _ _ _ _ => (re_call D_read_numbers (hr.mono (by decide)) T.f_read_numbers takes0 (ra_cons (re_var 6) (ra_cons (re_op opd_add (RE.p (re_op opd_add (rp_var 2) (rp_var 3))) (RE.p re_int)) ra_nil)))) (sw_true rfl rfl rfl (by decide +kernel))) (rss_cons (rs_setLc 9 sc_read_mode.nd (ri_seq (re_var 8)) (blkOk_by (own := [("numbers", 10)]) (N := N_read_mode) (sc := (defScope s_read_mode)) (by decide +kernel)) (fun _ _ _ _ _ => (rg_name 10 sc_read_mode.nd)) (fun _ _ _ _ _ => rts_nil) (fun _ _ _ _ _ => (re_slice (rp_var 10) ro_none (ro_some (rp_var 2)))) (sw_true rfl rfl rfl (by decide +kernel))) (rss_cons (rs_setLc 11 sc_read_mode.nd (ri_seq (re_var 8)) (blkOk_by (own := [("numbers", 10)]) (N := N_read_mode) (sc := (defScope s_read_mode)) (by decide +kernel)) (fun _ _ _ _ _ => (rg_name 10 sc_read_mode.nd)) (fun _ _ _ _ _ => rts_nil) (fun _ _ _ _ _ => (re_ix ixd_seq (rp_var 10) (rp_var 2))) (sw_true rfl rfl rfl (by decide +kernel))) (rss_cons (rs_setLc 12 sc_read_mode.nd (ri_seq (re_var 8)) (blkOk_by (own := [("numbers", 10)]) (N := N_read_mode) (sc := (defScope s_read_mode)) (by decide +kernel)) (fun _ _ _ _ _ => (rg_name 10 sc_read_mode.nd)) (fun _ _ _ _ _ => rts_nil) (fun _ _ _ _ _ => (re_slice (rp_var 10) (ro_some (RE.p (re_op opd_add (rp_var 2) (RE.p re_int)))) (ro_some (RE.p (re_neg (RE.p re_int)))))) (sw_true rfl rfl rfl (by decide +kernel))) (rss_cons (rs_set 13 sc_read_mode.nd (re_make I_Mode (hr.mono (by decide)) T.c_Mode (takes_of rfl rfl rfl rfl) (ra_cons (re_var 5) (ra_cons (re_var 9) (ra_cons (re_var 11) (ra_cons (re_var 12) (ra_cons (by exact (RN.e (rn_lc sc_read_mode.nd (ri_seq (re_var 8)) (blkOk_by (own := [("numbers", 10)]) (N := N_read_mode) (sc := (defScope s_read_mode)) (by decide +kernel)) (fun _ _ _ _ _ => (rg_name 10 sc_read_mode.nd)) (fun _ _ _ _ _ => rts_nil) (fun _ _ _ _ _ => (re_ix ixd_seq (rp_var 10) (RE.p (re_neg (RE.p re_int)))))))) (ra_cons (re_var 4) ra_nil)))))))) (rss_one (rs_ret (re_tup (ra_cons (re_var 13) (ra_cons (re_op opd_add (RE.p (re_op opd_add (RE.p (re_op opd_add (rp_var 1) (RE.p re_int))) (RE.p (re_callB cd_len T.b_len (rpa_cons (rp_var 5) rpa_nil))))) (rp_var 2)) ra_nil)))))))))))))))
/-! ### read_thing -/
abbrev s_read_thing : Stmt := topS 59
abbrev N_read_thing : List Str := ["text", "rows", "row", "many", "pushes", "words", "at", "modes", "mode"]
theorem sc_read_thing : FnScope N_read_thing ["text"] (defScope s_read_thing) := ⟨rfl, rfl, rfl, by decide +kernel, rfl, by decide +kernel, by decide +kernel⟩
def tb_read_thing (K : PySem.W.Frag) (C_Mode C_Thing C_BadThing C_TooMany : Addr) : DS :=
  (dSq (dIf (dNot (dTest (dCB (kIsi K) (dCons (dVarP 0) (dCons (dC (.ty "str")) dNil))))) dNever dNext) (dSq (dSet 1 (dLc (dSeq (dSplit (dVarP 0) (dC (.str "\n")))) (gNm 2) dYes (dSplit (dVarP 2) (dC (.str " "))) [2])) (dSq (dIf (dTest (dOp kNe (dOp kIx (dOp kIx (dVarP 1) (dC (.int 0))) (dC (.int 0))) (dC (.str "numbers")))) dNever dNext) (dSq (dSet 3 (dOp kIx (dCall 2 [] g_read_numbers (dCons (dSl (dOp kIx (dVarP 1) (dC (.int 0))) (dPart (dC (.int 1))) dNoPart) (dCons (dC (.int 1)) dNil))) (dC (.int 0)))) (dSq (dSet 4 (dLc (dSeq (dCall 3 [] g_headed (dCons (dVar 1) (dCons (dC (.int 1)) (dCons (dC (.str "push")) dNil))))) (gNm 5) dYes (dCB kTuple (dCons (dCall 2 [] g_read_numbers (dCons (dVar 5) (dCons (dC (.int 2)) dNil))) dNil)) [5])) (dSq (dSet 6 (dOp kAdd (dC (.int 1)) (dCB kLen (dCons (dVarP 4) dNil)))) (dSq (dOwn 7 (dLstN dNil)) (dSq (dWhile (dTest (dOp kLt (dVarP 6) (dCB kLen (dCons (dVarP 1) dNil)))) (dSq (dAsg (dCall 4 [] (g_read_mode C_Mode) (dCons (dVar 1) (dCons (dVar 6) (dCons (dVar 3) (dCons (dCB kLen (dCons (dVarP 4) dNil)) dNil))))) (gTp 2 (gCs (gNm 8) (gCs (gNm 6) gNl)))) (dApp 7 (dVar 8)))) (dFrz 7 (dRet (dMake 4 C_Thing [] (g_Thing_init C_Mode C_BadThing C_TooMany) (dCons (dVar 3) (dCons (dVar 4) (dCons (dVar 7) dNil))))))))))))))
theorem der_read_thing (T : Txt K mg a_Settles_init a_Comes_init a_is_whole a_own a_own_list a_are_wholes a_is_row a_is_room a_is_table a_Mode_init a_is_mode a_is_push a_Thing_init a_Thing_pushes a_Thing_modes a_Straight_init a_Stopped_init a_Parted_init a_words_in a_read_number a_read_numbers a_show_numbers a_show_room a_read_room a_show_rule a_rule_at a_read_rule a_show_claim a_claim_of a_read_claim a_rows_of_mode a_show_thing a_headed a_read_mode a_read_thing a__law_cell_at a__law_stream a__law_number a__law_words a__law_leaf a__law_tree a__law_rule a__law_rule_text a__law_same_rule a__law_rows a__law_room_text a__law_claims a__law_parts a__law_thing_text a__law_things a_law C_BadThing C_TooMany C_Claim C_Settles C_Comes C_Mode C_Thing C_Rule C_Straight C_Stopped C_Parted) (D_read_numbers : FD P w K mg base 2 a_read_numbers 2 [] g_read_numbers) (D_headed : FD P w K mg base 1 a_headed 3 [] g_headed) (D_read_mode : FD P w K mg base 5 a_read_mode 4 [] (g_read_mode C_Mode)) (I_Thing : FI P w K mg base 5 C_Thing 4 [] (g_Thing_init C_Mode C_BadThing C_TooMany))
    {f : Addr} {cdv : Value} {A : Around} {outer : List Env} {s : Shared} {H : Hp} {E : XK} (hr : Room 6 (A.deeper (envOfC "read_thing" (defScope s_read_thing) s.heap.objs.size f cdv))) :
    RSs (cxOf (L2.CX P w) P w K mg base N_read_thing "read_thing" (defScope s_read_thing) f cdv A outer s H E) (WF E) (defBody s_read_thing) (tb_read_thing K C_Mode C_Thing C_BadThing C_TooMany) :=
  (rss_cons (rs_if (rt_not (rt_val (RE.p (re_callB (cd_isi (K := K)) T.b_isinstance (rpa_cons (rp_var 0) (rpa_cons (RE.p (re_ty T.b_str (by decide +kernel))) rpa_nil)))))) (rss_one rs_never) rss_nil) (rss_cons (rs_setLc 1 sc_read_thing.nd (ri_seq (re_split (rp_var 0) (RE.p re_str))) (blkOk_by (own := [("row", 2)]) (N := N_read_thing) (sc := (defScope s_read_thing)) (by decide +kernel)) (fun _ _ _ _ _ => (rg_name 2 sc_read_thing.nd)) (fun _ _ _ _ _ => rts_nil) (fun _ _ _ _ _ => (re_split (rp_var 2) (RE.p re_str))) (sw_true rfl rfl rfl (by decide +kernel))) (rss_cons (rs_if (rt_cmp (opd_ne hr.units) (RE.p (re_ix ixd_seq (RE.p (re_ix ixd_seq (rp_var 1) (RE.p re_int))) (RE.p re_int))) (RE.p re_str)) (rss_one rs_never) rss_nil) (rss_cons (rs_set 3 sc_read_thing.nd (re_ix ixd_seq (RE.p (re_call D_read_numbers (hr.mono (by decide)) T.f_read_numbers (takes_of rfl rfl rfl rfl) (ra_cons (re_slice (RE.p (re_ix ixd_seq (rp_var 1) (RE.p re_int))) (ro_some (RE.p re_int)) ro_none) (ra_cons re_int ra_nil)))) (RE.p re_int))) (rss_cons (rs_setLc 4 sc_read_thing.nd (ri_seq (re_call D_headed (hr.mono (by decide)) T.f_headed (takes_of rfl rfl rfl rfl) (ra_cons (re_var 1) (ra_cons re_int (ra_cons re_str ra_nil))))) (blkOk_by (own := [("words", 5)]) (N := N_read_thing) (sc := (defScope s_read_thing)) (by decide +kernel)) (fun _ _ _ _ _ => (rg_name 5 sc_read_thing.nd)) (fun _ _ _ _ _ => rts_nil) (fun _ _ _ _ _ => (re_callTy cd_tuple T.b_tuple (rpa_cons (RE.p (re_call D_read_numbers (hr.mono (by decide)) T.f_read_numbers takes0 (ra_cons (re_var 5) (ra_cons re_int ra_nil)))) rpa_nil))) (sw_true rfl rfl rfl (by decide +kernel))) (rss_cons (rs_set 6 sc_read_thing.nd (re_op opd_add (RE.p re_int) (RE.p (re_callB cd_len T.b_len (rpa_cons (rp_var 4) rpa_nil))))) (rss_cons (rs_own 7 sc_read_thing.nd (rn_lst ra_nil)) (rss_cons (rs_while (passes_of rfl) (rt_cmp opd_lt (rp_var 6) (RE.p (re_callB cd_len T.b_len (rpa_cons (rp_var 1) rpa_nil)))) (rss_cons (rs_asg (re_call D_read_mode (hr.mono (by decide)) T.f_read_mode (takes_of rfl rfl rfl rfl) (ra_cons (re_var 1) (ra_cons (re_var 6) (ra_cons (re_var 3) (ra_cons (re_callB cd_len T.b_len (rpa_cons (rp_var 4) rpa_nil)) ra_nil))))) (rg_tup (rgs_cons (rg_name 8 sc_read_thing.nd) (rgs_cons (rg_name 6 sc_read_thing.nd) rgs_nil)))) (rss_one (rs_app 7 (re_var 8))))) (rss_frz 7 (rss_one (rs_ret (re_make I_Thing (hr.mono (by decide)) T.c_Thing (takes_of rfl rfl rfl rfl) (ra_cons (re_var 3) (ra_cons (re_var 4) (ra_cons (re_var 7) ra_nil)))))))))))))))
/-! ### _law_cell_at -/
abbrev s__law_cell_at : Stmt := topS 61
abbrev N__law_cell_at : List Str := ["_law_script", "_law_k"]
abbrev tb__law_cell_at  : DS := tb_cellL
theorem rd__law_cell_at  (ds : List D) (Q E : EQ) (h1 : ds.length = 2) (h2 : g__law_cell_at ds Q E) : tb__law_cell_at (dE Q E) (startD N__law_cell_at ds) := rd_cellL ds Q E h1 h2
theorem sc__law_cell_at : FnScope N__law_cell_at ["_law_script", "_law_k"] (defScope s__law_cell_at) := ⟨rfl, rfl, rfl, by decide +kernel, rfl, by decide +kernel, by decide +kernel⟩
theorem der__law_cell_at (T : Txt K mg a_Settles_init a_Comes_init a_is_whole a_own a_own_list a_are_wholes a_is_row a_is_room a_is_table a_Mode_init a_is_mode a_is_push a_Thing_init a_Thing_pushes a_Thing_modes a_Straight_init a_Stopped_init a_Parted_init a_words_in a_read_number a_read_numbers a_show_numbers a_show_room a_read_room a_show_rule a_rule_at a_read_rule a_show_claim a_claim_of a_read_claim a_rows_of_mode a_show_thing a_headed a_read_mode a_read_thing a__law_cell_at a__law_stream a__law_number a__law_words a__law_leaf a__law_tree a__law_rule a__law_rule_text a__law_same_rule a__law_rows a__law_room_text a__law_claims a__law_parts a__law_thing_text a__law_things a_law C_BadThing C_TooMany C_Claim C_Settles C_Comes C_Mode C_Thing C_Rule C_Straight C_Stopped C_Parted) 
    {f : Addr} {cdv : Value} {A : Around} {outer : List Env} {s : Shared} {H : Hp} {E : XK} (hr : Room 0 (A.deeper (envOfC "_law_cell_at" (defScope s__law_cell_at) s.heap.objs.size f cdv))) :
    RSs (cxOf (L2.CX P w) P w K mg base N__law_cell_at "_law_cell_at" (defScope s__law_cell_at) f cdv A outer s H E) (WF E) (defBody s__law_cell_at) (tb__law_cell_at) :=
  (rss_cons (rs_if (rt_cmp opd_lt (rp_var 1) (RE.p (re_callB cd_len T.b_len (rpa_cons (rp_var 0) rpa_nil)))) (rss_one (rs_ret (re_ix ixd_seq (rp_var 0) (rp_var 1)))) rss_nil) (rss_one (rs_ret re_int)))
/-! ### _law_stream -/
abbrev s__law_stream : Stmt := topS 62
abbrev N__law_stream : List Str := ["_law_cell", "_law_many", "_law_found", "_law_rest", "_law_k", "_law_number_here"]
abbrev tb__law_stream  : DS := tb_stream31
theorem rd__law_stream  (ds : List D) (Q E : EQ) (h1 : ds.length = 2) (h2 : g__law_stream ds Q E) : tb__law_stream (dE Q E) (startD N__law_stream ds) := rd_stream31 ds Q E h1 h2
theorem sc__law_stream : FnScope N__law_stream ["_law_cell", "_law_many"] (defScope s__law_stream) := ⟨rfl, rfl, rfl, by decide +kernel, rfl, by decide +kernel, by decide +kernel⟩
theorem der__law_stream (T : Txt K mg a_Settles_init a_Comes_init a_is_whole a_own a_own_list a_are_wholes a_is_row a_is_room a_is_table a_Mode_init a_is_mode a_is_push a_Thing_init a_Thing_pushes a_Thing_modes a_Straight_init a_Stopped_init a_Parted_init a_words_in a_read_number a_read_numbers a_show_numbers a_show_room a_read_room a_show_rule a_rule_at a_read_rule a_show_claim a_claim_of a_read_claim a_rows_of_mode a_show_thing a_headed a_read_mode a_read_thing a__law_cell_at a__law_stream a__law_number a__law_words a__law_leaf a__law_tree a__law_rule a__law_rule_text a__law_same_rule a__law_rows a__law_room_text a__law_claims a__law_parts a__law_thing_text a__law_things a_law C_BadThing C_TooMany C_Claim C_Settles C_Comes C_Mode C_Thing C_Rule C_Straight C_Stopped C_Parted) 
    {f : Addr} {cdv : Value} {A : Around} {outer : List Env} {s : Shared} {H : Hp} {E : XK} (hr : Room 0 (A.deeper (envOfC "_law_stream" (defScope s__law_stream) s.heap.objs.size f cdv))) :
    RSs (cxOf (L2.CX P w) P w K mg base N__law_stream "_law_stream" (defScope s__law_stream) f cdv A outer s H E) (WF E) (defBody s__law_stream) (tb__law_stream) :=
  (rss_cons (rs_own 2 sc__law_stream.nd (rn_lst ra_nil)) (rss_cons (rs_if (rt_cmp opd_ge (rp_var 0) (RE.p (re_op opd_pow (RE.p re_int) (RE.p re_int)))) (rss_cons (rs_set 3 sc__law_stream.nd (re_op opd_sub (rp_var 0) (RE.p (re_op opd_pow (RE.p re_int) (RE.p re_int))))) (rss_cons (rs_for (passes_of rfl) (ri_range1 (rp_var 1) T.b_range) (rg_name 4 sc__law_stream.nd) (rss_cons (rs_app 2 (re_op opd_mod (rp_var 3) (RE.p re_int))) (rss_one (rs_set 3 sc__law_stream.nd (re_op opd_div (rp_var 3) (RE.p re_int)))))) (rss_frz 2 (rss_one (rs_ret (re_var 2)))))) rss_nil) (rss_cons (rs_set 5 sc__law_stream.nd (re_op opd_add (RE.p (re_op opd_mod (rp_var 0) (RE.p re_int))) (RE.p re_int))) (rss_cons (rs_for (passes_of rfl) (ri_range1 (RE.p (re_op opd_add (rp_var 1) (RE.p re_int))) T.b_range) (rg_name 4 sc__law_stream.nd) (rss_cons (rs_set 5 sc__law_stream.nd (re_op opd_mod (RE.p (re_op opd_add (RE.p (re_op opd_add (RE.p (re_op opd_mul (rp_var 5) (rp_var 5))) (RE.p (re_op opd_mul (RE.p re_int) (rp_var 5))))) (rp_var 4))) (RE.p re_int))) (rss_one (rs_app 2 (re_var 5))))) (rss_one (rs_ret (re_slice (rp_var 2) (ro_some (RE.p re_int)) ro_none)))))))
/-! ### _law_number -/
abbrev s__law_number : Stmt := topS 63
abbrev N__law_number : List Str := ["_law_number_here", "_law_size"]
theorem sc__law_number : FnScope N__law_number ["_law_number_here"] (defScope s__law_number) := ⟨rfl, rfl, rfl, by decide +kernel, rfl, by decide +kernel, by decide +kernel⟩
def tb__law_number  : DS :=
  (dSq (dSet 1 (dOp kMod (dOp kDiv (dVarP 0) (dC (.int 10))) (dC (.int 10)))) (dSq (dIf (dTest (dOp kEq (dOp kMod (dVarP 0) (dC (.int 7))) (dC (.int 1)))) (dSet 1 (dOp kMod (dOp kMul (dVarP 0) (dC (.int 48271))) (dOp kPow (dC (.int 10)) (dC (.int 20))))) dNext) (dSq (dIf (dTest (dOp kEq (dOp kMod (dVarP 0) (dC (.int 7))) (dC (.int 2)))) (dSet 1 (dOp kAdd (dOp kPow (dC (.int 10)) (dC (.int 59))) (dOp kMod (dOp kMul (dVarP 0) (dOp kPow (dC (.int 10)) (dC (.int 50)))) (dOp kMul (dC (.int 9)) (dOp kPow (dC (.int 10)) (dC (.int 59))))))) dNext) (dRet (dOp kMul (dVarP 1) (dOp kIx (dLst (dCons (dC (.int 1)) (dCons (dOp kSub (dC (.int 0)) (dC (.int 1))) dNil))) (dOp kMod (dOp kDiv (dVarP 0) (dC (.int 5))) (dC (.int 2)))))))))
theorem der__law_number (T : Txt K mg a_Settles_init a_Comes_init a_is_whole a_own a_own_list a_are_wholes a_is_row a_is_room a_is_table a_Mode_init a_is_mode a_is_push a_Thing_init a_Thing_pushes a_Thing_modes a_Straight_init a_Stopped_init a_Parted_init a_words_in a_read_number a_read_numbers a_show_numbers a_show_room a_read_room a_show_rule a_rule_at a_read_rule a_show_claim a_claim_of a_read_claim a_rows_of_mode a_show_thing a_headed a_read_mode a_read_thing a__law_cell_at a__law_stream a__law_number a__law_words a__law_leaf a__law_tree a__law_rule a__law_rule_text a__law_same_rule a__law_rows a__law_room_text a__law_claims a__law_parts a__law_thing_text a__law_things a_law C_BadThing C_TooMany C_Claim C_Settles C_Comes C_Mode C_Thing C_Rule C_Straight C_Stopped C_Parted) 
    {f : Addr} {cdv : Value} {A : Around} {outer : List Env} {s : Shared} {H : Hp} {E : XK} (hr : Room 0 (A.deeper (envOfC "_law_number" (defScope s__law_number) s.heap.objs.size f cdv))) :
    RSs (cxOf (L2.CX P w) P w K mg base N__law_number "_law_number" (defScope s__law_number) f cdv A outer s H E) (WF E) (defBody s__law_number) (tb__law_number) :=
  (rss_cons (rs_set 1 sc__law_number.nd (re_op opd_mod (RE.p (re_op opd_div (rp_var 0) (RE.p re_int))) (RE.p re_int))) (rss_cons (rs_if (rt_cmp (opd_eq hr.units) (RE.p (re_op opd_mod (rp_var 0) (RE.p re_int))) (RE.p re_int)) (rss_one (rs_set 1 sc__law_number.nd (re_op opd_mod (RE.p (re_op opd_mul (rp_var 0) (RE.p re_int))) (RE.p (re_op opd_pow (RE.p re_int) (RE.p re_int)))))) rss_nil) (rss_cons (rs_if (rt_cmp (opd_eq hr.units) (RE.p (re_op opd_mod (rp_var 0) (RE.p re_int))) (RE.p re_int)) (rss_one (rs_set 1 sc__law_number.nd (re_op opd_add (RE.p (re_op opd_pow (RE.p re_int) (RE.p re_int))) (RE.p (re_op opd_mod (RE.p (re_op opd_mul (rp_var 0) (RE.p (re_op opd_pow (RE.p re_int) (RE.p re_int))))) (RE.p (re_op opd_mul (RE.p re_int) (RE.p (re_op opd_pow (RE.p re_int) (RE.p re_int)))))))))) rss_nil) (rss_one (rs_ret (re_op opd_mul (rp_var 1) (RE.p (re_ix ixd_seq (RE.p (re_lst (ra_cons re_int (ra_cons (re_op opd_sub (RE.p re_int) (RE.p re_int)) ra_nil)))) (RE.p (re_op opd_mod (RE.p (re_op opd_div (rp_var 0) (RE.p re_int))) (RE.p re_int)))))))))))
/-! ### _law_words -/
abbrev s__law_words : Stmt := topS 64
abbrev N__law_words : List Str := ["_law_numbers", "_law_number_here"]
theorem sc__law_words : FnScope N__law_words ["_law_numbers"] (defScope s__law_words) := ⟨rfl, rfl, rfl, by decide +kernel, rfl, by decide +kernel, by decide +kernel⟩
def tb__law_words  : DS :=
  (dRet (dJoin (dC (.str " ")) (dFz (dLcN (dSeq (dVar 0)) (gNm 1) dYes (dCB kStrI (dCons (dVarP 1) dNil)) [1]))))
theorem der__law_words (T : Txt K mg a_Settles_init a_Comes_init a_is_whole a_own a_own_list a_are_wholes a_is_row a_is_room a_is_table a_Mode_init a_is_mode a_is_push a_Thing_init a_Thing_pushes a_Thing_modes a_Straight_init a_Stopped_init a_Parted_init a_words_in a_read_number a_read_numbers a_show_numbers a_show_room a_read_room a_show_rule a_rule_at a_read_rule a_show_claim a_claim_of a_read_claim a_rows_of_mode a_show_thing a_headed a_read_mode a_read_thing a__law_cell_at a__law_stream a__law_number a__law_words a__law_leaf a__law_tree a__law_rule a__law_rule_text a__law_same_rule a__law_rows a__law_room_text a__law_claims a__law_parts a__law_thing_text a__law_things a_law C_BadThing C_TooMany C_Claim C_Settles C_Comes C_Mode C_Thing C_Rule C_Straight C_Stopped C_Parted) 
    {f : Addr} {cdv : Value} {A : Around} {outer : List Env} {s : Shared} {H : Hp} {E : XK} (hr : Room 0 (A.deeper (envOfC "_law_words" (defScope s__law_words) s.heap.objs.size f cdv))) :
    RSs (cxOf (L2.CX P w) P w K mg base N__law_words "_law_words" (defScope s__law_words) f cdv A outer s H E) (WF E) (defBody s__law_words) (tb__law_words) :=
  (rss_one (rs_ret (re_join (RE.p re_str) (by exact (RN.e (rn_lc sc__law_words.nd (ri_seq (re_var 0)) (blkOk_by (own := [("_law_number_here", 1)]) (N := N__law_words) (sc := (defScope s__law_words)) (by decide +kernel)) (fun _ _ _ _ _ => (rg_name 1 sc__law_words.nd)) (fun _ _ _ _ _ => rts_nil) (fun _ _ _ _ _ => (re_callTy cd_strI T.b_str (rpa_cons (rp_var 1) rpa_nil)))))))))
/-! ### _law_leaf -/
abbrev s__law_leaf : Stmt := topS 65
abbrev N__law_leaf : List Str := ["_law_cell", "_law_many", "_law_numbers", "_law_number_here"]
theorem sc__law_leaf : FnScope N__law_leaf ["_law_cell", "_law_many"] (defScope s__law_leaf) := ⟨rfl, rfl, rfl, by decide +kernel, rfl, by decide +kernel, by decide +kernel⟩
def tb__law_leaf  : DS :=
  (dSq (dSet 2 (dLc (dSeq (dCall 2 [] g__law_stream (dCons (dVar 0) (dCons (dOp kAdd (dVarP 1) (dC (.int 2))) dNil)))) (gNm 3) dYes (dCall 1 [] g__law_number (dCons (dVar 3) dNil)) [3])) (dRet (dTup (dCons (dC (.str "straight")) (dCons (dSl (dVarP 2) dNoPart (dPart (dVarP 1))) (dCons (dOp kIx (dVarP 2) (dVarP 1)) (dCons (dOp kIx (dVarP 2) (dOp kAdd (dVarP 1) (dC (.int 1)))) dNil)))))))
theorem der__law_leaf (T : Txt K mg a_Settles_init a_Comes_init a_is_whole a_own a_own_list a_are_wholes a_is_row a_is_room a_is_table a_Mode_init a_is_mode a_is_push a_Thing_init a_Thing_pushes a_Thing_modes a_Straight_init a_Stopped_init a_Parted_init a_words_in a_read_number a_read_numbers a_show_numbers a_show_room a_read_room a_show_rule a_rule_at a_read_rule a_show_claim a_claim_of a_read_claim a_rows_of_mode a_show_thing a_headed a_read_mode a_read_thing a__law_cell_at a__law_stream a__law_number a__law_words a__law_leaf a__law_tree a__law_rule a__law_rule_text a__law_same_rule a__law_rows a__law_room_text a__law_claims a__law_parts a__law_thing_text a__law_things a_law C_BadThing C_TooMany C_Claim C_Settles C_Comes C_Mode C_Thing C_Rule C_Straight C_Stopped C_Parted) (D__law_stream : FD P w K mg base 1 a__law_stream 2 [] g__law_stream) (D__law_number : FD P w K mg base 1 a__law_number 1 [] g__law_number)
    {f : Addr} {cdv : Value} {A : Around} {outer : List Env} {s : Shared} {H : Hp} {E : XK} (hr : Room 1 (A.deeper (envOfC "_law_leaf" (defScope s__law_leaf) s.heap.objs.size f cdv))) :
    RSs (cxOf (L2.CX P w) P w K mg base N__law_leaf "_law_leaf" (defScope s__law_leaf) f cdv A outer s H E) (WF E) (defBody s__law_leaf) (tb__law_leaf) :=
  (rss_cons (rs_setLc 2 sc__law_leaf.nd (ri_seq (re_call D__law_stream (hr.mono (by decide)) T.f__law_stream (takes_of rfl rfl rfl rfl) (ra_cons (re_var 0) (ra_cons (re_op opd_add (rp_var 1) (RE.p re_int)) ra_nil)))) (blkOk_by (own := [("_law_number_here", 3)]) (N := N__law_leaf) (sc := (defScope s__law_leaf)) (by decide +kernel)) (fun _ _ _ _ _ => (rg_name 3 sc__law_leaf.nd)) (fun _ _ _ _ _ => rts_nil) (fun _ _ _ _ _ => (re_call D__law_number (hr.mono (by decide)) T.f__law_number takes0 (ra_cons (re_var 3) ra_nil))) (sw_true rfl rfl rfl (by decide +kernel))) (rss_one (rs_ret (re_tup (ra_cons re_str (ra_cons (re_slice (rp_var 2) ro_none (ro_some (rp_var 1))) (ra_cons (re_ix ixd_seq (rp_var 2) (rp_var 1)) (ra_cons (re_ix ixd_seq (rp_var 2) (RE.p (re_op opd_add (rp_var 1) (RE.p re_int)))) ra_nil))))))))
/-! ### _law_tree -/
abbrev s__law_tree : Stmt := topS 66
abbrev N__law_tree : List Str := ["_law_cells", "_law_many", "_law_tree_here", "_law_cell", "_law_xs", "_law_other", "_law_row", "_law_number_here"]
theorem sc__law_tree : FnScope N__law_tree ["_law_cells", "_law_many"] (defScope s__law_tree) := ⟨rfl, rfl, rfl, by decide +kernel, rfl, by decide +kernel, by decide +kernel⟩
def tb__law_tree  : DS :=
  (dSq (dSet 2 (dCall 2 [] g__law_leaf (dCons (dCall 2 [] g__law_cell_at (dCons (dVar 0) (dCons (dC (.int 0)) dNil))) (dCons (dVar 1) dNil)))) (dSq (dFor (dSeq (dSl (dVarP 0) (dPart (dC (.int 1))) (dPart (dC (.int 6))))) (gNm 3) (dSq (dSet 4 (dCall 2 [] g__law_stream (dCons (dVar 3) (dCons (dC (.int 5)) dNil)))) (dIf (dTest (dOp kLt (dOp kMod (dOp kIx (dVarP 4) (dC (.int 4))) (dC (.int 5))) (dC (.int 2)))) (dSet 2 (dTup (dCons (dC (.str "stopped")) (dCons (dVar 2) (dCons (dCall 1 [] g__law_number (dCons (dOp kIx (dVarP 4) (dC (.int 0))) dNil)) (dCons (dCall 1 [] g__law_number (dCons (dOp kIx (dVarP 4) (dC (.int 1))) dNil)) dNil)))))) (dSq (dSet 5 (dCall 2 [] g__law_leaf (dCons (dOp kDiv (dVarP 3) (dC (.int 7))) (dCons (dVar 1) dNil)))) (dSq (dSet 6 (dCB kTuple (dCons (dFz (dLcN (dSeq (dSl (dVarP 4) dNoPart (dPart (dOp kAdd (dVarP 1) (dC (.int 1)))))) (gNm 7) dYes (dCall 1 [] g__law_number (dCons (dVar 7) dNil)) [7])) dNil))) (dSet 2 (dTup (dCons (dC (.str "parted")) (dCons (dVar 6) (dCons (dOp kIx (dLst (dCons (dVar 2) (dCons (dVar 5) dNil))) (dOp kMod (dOp kIx (dVarP 4) (dC (.int 4))) (dC (.int 2)))) (dCons (dOp kIx (dLst (dCons (dVar 5) (dCons (dVar 2) dNil))) (dOp kMod (dOp kIx (dVarP 4) (dC (.int 4))) (dC (.int 2)))) dNil))))))))))) (dRet (dVar 2))))
theorem der__law_tree (T : Txt K mg a_Settles_init a_Comes_init a_is_whole a_own a_own_list a_are_wholes a_is_row a_is_room a_is_table a_Mode_init a_is_mode a_is_push a_Thing_init a_Thing_pushes a_Thing_modes a_Straight_init a_Stopped_init a_Parted_init a_words_in a_read_number a_read_numbers a_show_numbers a_show_room a_read_room a_show_rule a_rule_at a_read_rule a_show_claim a_claim_of a_read_claim a_rows_of_mode a_show_thing a_headed a_read_mode a_read_thing a__law_cell_at a__law_stream a__law_number a__law_words a__law_leaf a__law_tree a__law_rule a__law_rule_text a__law_same_rule a__law_rows a__law_room_text a__law_claims a__law_parts a__law_thing_text a__law_things a_law C_BadThing C_TooMany C_Claim C_Settles C_Comes C_Mode C_Thing C_Rule C_Straight C_Stopped C_Parted) (D__law_cell_at : FD P w K mg base 1 a__law_cell_at 2 [] g__law_cell_at) (D__law_stream : FD P w K mg base 1 a__law_stream 2 [] g__law_stream) (D__law_number : FD P w K mg base 1 a__law_number 1 [] g__law_number) (D__law_leaf : FD P w K mg base 2 a__law_leaf 2 [] g__law_leaf)
    {f : Addr} {cdv : Value} {A : Around} {outer : List Env} {s : Shared} {H : Hp} {E : XK} (hr : Room 2 (A.deeper (envOfC "_law_tree" (defScope s__law_tree) s.heap.objs.size f cdv))) :
    RSs (cxOf (L2.CX P w) P w K mg base N__law_tree "_law_tree" (defScope s__law_tree) f cdv A outer s H E) (WF E) (defBody s__law_tree) (tb__law_tree) :=
  (rss_cons (rs_set 2 sc__law_tree.nd (re_call D__law_leaf (hr.mono (by decide)) T.f__law_leaf (takes_of rfl rfl rfl rfl) (ra_cons (re_call D__law_cell_at (hr.mono (by decide)) T.f__law_cell_at (takes_of rfl rfl rfl rfl) (ra_cons (re_var 0) (ra_cons re_int ra_nil))) (ra_cons (re_var 1) ra_nil)))) (rss_cons (rs_for (passes_of rfl) (ri_seq (re_slice (rp_var 0) (ro_some (RE.p re_int)) (ro_some (RE.p re_int)))) (rg_name 3 sc__law_tree.nd) (rss_cons (rs_set 4 sc__law_tree.nd (re_call D__law_stream (hr.mono (by decide)) T.f__law_stream (takes_of rfl rfl rfl rfl) (ra_cons (re_var 3) (ra_cons re_int ra_nil)))) (rss_one (rs_if (rt_cmp opd_lt (RE.p (re_op opd_mod (RE.p (re_ix ixd_seq (rp_var 4) (RE.p re_int))) (RE.p re_int))) (RE.p re_int)) (rss_one (rs_set 2 sc__law_tree.nd (re_tup (ra_cons re_str (ra_cons (re_var 2) (ra_cons (re_call D__law_number (hr.mono (by decide)) T.f__law_number (takes_of rfl rfl rfl rfl) (ra_cons (re_ix ixd_seq (rp_var 4) (RE.p re_int)) ra_nil)) (ra_cons (re_call D__law_number (hr.mono (by decide)) T.f__law_number (takes_of rfl rfl rfl rfl) (ra_cons (re_ix ixd_seq (rp_var 4) (RE.p re_int)) ra_nil)) ra_nil))))))) (rss_cons (rs_set 5 sc__law_tree.nd (re_call D__law_leaf (hr.mono (by decide)) T.f__law_leaf (takes_of rfl rfl rfl rfl) (ra_cons (re_op opd_div (rp_var 3) (RE.p re_int)) (ra_cons (re_var 1) ra_nil)))) (rss_cons (rs_set 6 sc__law_tree.nd (re_callTy cd_tuple T.b_tuple (rpa_cons (RE.p (by exact (RN.e (rn_lc sc__law_tree.nd (ri_seq (re_slice (rp_var 4) ro_none (ro_some (RE.p (re_op opd_add (rp_var 1) (RE.p re_int)))))) (blkOk_by (own := [("_law_number_here", 7)]) (N := N__law_tree) (sc := (defScope s__law_tree)) (by decide +kernel)) (fun _ _ _ _ _ => (rg_name 7 sc__law_tree.nd)) (fun _ _ _ _ _ => rts_nil) (fun _ _ _ _ _ => (re_call D__law_number (hr.mono (by decide)) T.f__law_number takes0 (ra_cons (re_var 7) ra_nil))))))) rpa_nil))) (rss_one (rs_set 2 sc__law_tree.nd (re_tup (ra_cons re_str (ra_cons (re_var 6) (ra_cons (re_ix ixd_seq (RE.p (re_lst (ra_cons (re_var 2) (ra_cons (re_var 5) ra_nil)))) (RE.p (re_op opd_mod (RE.p (re_ix ixd_seq (rp_var 4) (RE.p re_int))) (RE.p re_int)))) (ra_cons (re_ix ixd_seq (RE.p (re_lst (ra_cons (re_var 5) (ra_cons (re_var 2) ra_nil)))) (RE.p (re_op opd_mod (RE.p (re_ix ixd_seq (rp_var 4) (RE.p re_int))) (RE.p re_int)))) ra_nil))))))))))))) (rss_one (rs_ret (re_var 2)))))
/-! ### _law_rule -/
abbrev s__law_rule : Stmt := topS 67
abbrev N__law_rule : List Str := ["_law_tree_here"]
theorem sc__law_rule : FnScope N__law_rule ["_law_tree_here"] (defScope s__law_rule) := ⟨rfl, rfl, rfl, by decide +kernel, rfl, by decide +kernel, by decide +kernel⟩
def tb__law_rule (C_Straight C_Stopped C_Parted : Addr) (GG : DF) : DS :=
  (dSq (dIf (dTest (dOp kEq (dOp kIx (dVarP 0) (dC (.int 0))) (dC (.str "straight")))) (dRet (dMake 4 C_Straight [] g_Straight_init (dCons (dCB kList (dCons (dOp kIx (dVarP 0) (dC (.int 1))) dNil)) (dCons (dOp kIx (dVarP 0) (dC (.int 2))) (dCons (dOp kIx (dVarP 0) (dC (.int 3))) dNil))))) dNext) (dSq (dIf (dTest (dOp kEq (dOp kIx (dVarP 0) (dC (.int 0))) (dC (.str "stopped")))) (dRet (dMake 4 C_Stopped [] g_Stopped_init (dCons (dCall 1 [] GG (dCons (dOp kIx (dVarP 0) (dC (.int 1))) dNil)) (dCons (dOp kIx (dVarP 0) (dC (.int 2))) (dCons (dOp kIx (dVarP 0) (dC (.int 3))) dNil))))) dNext) (dRet (dMake 4 C_Parted [] g_Parted_init (dCons (dOp kIx (dVarP 0) (dC (.int 1))) (dCons (dCall 1 [] GG (dCons (dOp kIx (dVarP 0) (dC (.int 2))) dNil)) (dCons (dCall 1 [] GG (dCons (dOp kIx (dVarP 0) (dC (.int 3))) dNil)) dNil)))))))
theorem der__law_rule (T : Txt K mg a_Settles_init a_Comes_init a_is_whole a_own a_own_list a_are_wholes a_is_row a_is_room a_is_table a_Mode_init a_is_mode a_is_push a_Thing_init a_Thing_pushes a_Thing_modes a_Straight_init a_Stopped_init a_Parted_init a_words_in a_read_number a_read_numbers a_show_numbers a_show_room a_read_room a_show_rule a_rule_at a_read_rule a_show_claim a_claim_of a_read_claim a_rows_of_mode a_show_thing a_headed a_read_mode a_read_thing a__law_cell_at a__law_stream a__law_number a__law_words a__law_leaf a__law_tree a__law_rule a__law_rule_text a__law_same_rule a__law_rows a__law_room_text a__law_claims a__law_parts a__law_thing_text a__law_things a_law C_BadThing C_TooMany C_Claim C_Settles C_Comes C_Mode C_Thing C_Rule C_Straight C_Stopped C_Parted) {kk : Nat} {GG : DF} (hk : 3 ≤ kk) (D_self : FD P w K mg base kk a__law_rule 1 [] GG) (I_Parted : FI P w K mg base 1 C_Parted 4 [] g_Parted_init) (I_Stopped : FI P w K mg base 1 C_Stopped 4 [] g_Stopped_init) (I_Straight : FI P w K mg base 2 C_Straight 4 [] g_Straight_init)
    {f : Addr} {cdv : Value} {A : Around} {outer : List Env} {s : Shared} {H : Hp} {E : XK} (hr : Room kk (A.deeper (envOfC "_law_rule" (defScope s__law_rule) s.heap.objs.size f cdv))) :
    RSs (cxOf (L2.CX P w) P w K mg base N__law_rule "_law_rule" (defScope s__law_rule) f cdv A outer s H E) (WF E) (defBody s__law_rule) (tb__law_rule C_Straight C_Stopped C_Parted GG) :=
  (rss_cons (rs_if (rt_cmp (opd_eq hr.units) (RE.p (re_ix ixd_seq (rp_var 0) (RE.p re_int))) (RE.p re_str)) (rss_one (rs_ret (re_make I_Straight (hr.mono (Nat.le_trans (by decide) hk)) T.c_Straight (takes_of rfl rfl rfl rfl) (ra_cons (re_callTy cd_list T.b_list (rpa_cons (RE.p (re_ix ixd_seq (rp_var 0) (RE.p re_int))) rpa_nil)) (ra_cons (re_ix ixd_seq (rp_var 0) (RE.p re_int)) (ra_cons (re_ix ixd_seq (rp_var 0) (RE.p re_int)) ra_nil)))))) rss_nil) (rss_cons (rs_if (rt_cmp (opd_eq hr.units) (RE.p (re_ix ixd_seq (rp_var 0) (RE.p re_int))) (RE.p re_str)) (rss_one (rs_ret (re_make I_Stopped (hr.mono (Nat.le_trans (by decide) hk)) T.c_Stopped (takes_of rfl rfl rfl rfl) (ra_cons (re_call D_self (hr.mono (Nat.le_refl _)) T.f__law_rule (takes_of rfl rfl rfl rfl) (ra_cons (re_ix ixd_seq (rp_var 0) (RE.p re_int)) ra_nil)) (ra_cons (re_ix ixd_seq (rp_var 0) (RE.p re_int)) (ra_cons (re_ix ixd_seq (rp_var 0) (RE.p re_int)) ra_nil)))))) rss_nil) (rss_one (rs_ret (re_make I_Parted (hr.mono (Nat.le_trans (by decide) hk)) T.c_Parted (takes_of rfl rfl rfl rfl) (ra_cons (re_ix ixd_seq (rp_var 0) (RE.p re_int)) (ra_cons (re_call D_self (hr.mono (Nat.le_refl _)) T.f__law_rule (takes_of rfl rfl rfl rfl) (ra_cons (re_ix ixd_seq (rp_var 0) (RE.p re_int)) ra_nil)) (ra_cons (re_call D_self (hr.mono (Nat.le_refl _)) T.f__law_rule (takes_of rfl rfl rfl rfl) (ra_cons (re_ix ixd_seq (rp_var 0) (RE.p re_int)) ra_nil)) ra_nil))))))))
/-! ### _law_rule_text -/
abbrev s__law_rule_text : Stmt := topS 68
abbrev N__law_rule_text : List Str := ["_law_tree_here"]
theorem sc__law_rule_text : FnScope N__law_rule_text ["_law_tree_here"] (defScope s__law_rule_text) := ⟨rfl, rfl, rfl, by decide +kernel, rfl, by decide +kernel, by decide +kernel⟩
def tb__law_rule_text  (GG : DF) : DS :=
  (dSq (dIf (dTest (dOp kEq (dOp kIx (dVarP 0) (dC (.int 0))) (dC (.str "straight")))) (dRet (dOp kAdd (dC (.str "straight ")) (dCall 1 [] g__law_words (dCons (dOp kAdd (dOp kIx (dVarP 0) (dC (.int 1))) (dLst (dCons (dOp kIx (dVarP 0) (dC (.int 2))) (dCons (dOp kIx (dVarP 0) (dC (.int 3))) dNil)))) dNil)))) dNext) (dSq (dIf (dTest (dOp kEq (dOp kIx (dVarP 0) (dC (.int 0))) (dC (.str "stopped")))) (dRet (dJoin (dC (.str " ")) (dLst (dCons (dC (.str "stopped")) (dCons (dCall 1 [] g__law_words (dCons (dLst (dCons (dOp kIx (dVarP 0) (dC (.int 2))) (dCons (dOp kIx (dVarP 0) (dC (.int 3))) dNil))) dNil)) (dCons (dCall 1 [] GG (dCons (dOp kIx (dVarP 0) (dC (.int 1))) dNil)) dNil)))))) dNext) (dRet (dJoin (dC (.str " ")) (dLst (dCons (dC (.str "parted")) (dCons (dCall 1 [] g__law_words (dCons (dOp kIx (dVarP 0) (dC (.int 1))) dNil)) (dCons (dCall 1 [] GG (dCons (dOp kIx (dVarP 0) (dC (.int 2))) dNil)) (dCons (dCall 1 [] GG (dCons (dOp kIx (dVarP 0) (dC (.int 3))) dNil)) dNil)))))))))
theorem der__law_rule_text (T : Txt K mg a_Settles_init a_Comes_init a_is_whole a_own a_own_list a_are_wholes a_is_row a_is_room a_is_table a_Mode_init a_is_mode a_is_push a_Thing_init a_Thing_pushes a_Thing_modes a_Straight_init a_Stopped_init a_Parted_init a_words_in a_read_number a_read_numbers a_show_numbers a_show_room a_read_room a_show_rule a_rule_at a_read_rule a_show_claim a_claim_of a_read_claim a_rows_of_mode a_show_thing a_headed a_read_mode a_read_thing a__law_cell_at a__law_stream a__law_number a__law_words a__law_leaf a__law_tree a__law_rule a__law_rule_text a__law_same_rule a__law_rows a__law_room_text a__law_claims a__law_parts a__law_thing_text a__law_things a_law C_BadThing C_TooMany C_Claim C_Settles C_Comes C_Mode C_Thing C_Rule C_Straight C_Stopped C_Parted) {kk : Nat} {GG : DF} (hk : 1 ≤ kk) (D_self : FD P w K mg base kk a__law_rule_text 1 [] GG) (D__law_words : FD P w K mg base 1 a__law_words 1 [] g__law_words)
    {f : Addr} {cdv : Value} {A : Around} {outer : List Env} {s : Shared} {H : Hp} {E : XK} (hr : Room kk (A.deeper (envOfC "_law_rule_text" (defScope s__law_rule_text) s.heap.objs.size f cdv))) :
    RSs (cxOf (L2.CX P w) P w K mg base N__law_rule_text "_law_rule_text" (defScope s__law_rule_text) f cdv A outer s H E) (WF E) (defBody s__law_rule_text) (tb__law_rule_text GG) :=
  (rss_cons (rs_if (rt_cmp (opd_eq hr.units) (RE.p (re_ix ixd_seq (rp_var 0) (RE.p re_int))) (RE.p re_str)) (rss_one (rs_ret (re_op opd_add (RE.p re_str) (RE.p (re_call D__law_words (hr.mono (Nat.le_trans (by decide) hk)) T.f__law_words (takes_of rfl rfl rfl rfl) (ra_cons (re_op opd_add (RE.p (re_ix ixd_seq (rp_var 0) (RE.p re_int))) (RE.p (re_lst (ra_cons (re_ix ixd_seq (rp_var 0) (RE.p re_int)) (ra_cons (re_ix ixd_seq (rp_var 0) (RE.p re_int)) ra_nil))))) ra_nil)))))) rss_nil) (rss_cons (rs_if (rt_cmp (opd_eq hr.units) (RE.p (re_ix ixd_seq (rp_var 0) (RE.p re_int))) (RE.p re_str)) (rss_one (rs_ret (re_join (RE.p re_str) (re_lst (ra_cons re_str (ra_cons (re_call D__law_words (hr.mono (Nat.le_trans (by decide) hk)) T.f__law_words (takes_of rfl rfl rfl rfl) (ra_cons (re_lst (ra_cons (re_ix ixd_seq (rp_var 0) (RE.p re_int)) (ra_cons (re_ix ixd_seq (rp_var 0) (RE.p re_int)) ra_nil))) ra_nil)) (ra_cons (re_call D_self (hr.mono (Nat.le_refl _)) T.f__law_rule_text (takes_of rfl rfl rfl rfl) (ra_cons (re_ix ixd_seq (rp_var 0) (RE.p re_int)) ra_nil)) ra_nil))))))) rss_nil) (rss_one (rs_ret (re_join (RE.p re_str) (re_lst (ra_cons re_str (ra_cons (re_call D__law_words (hr.mono (Nat.le_trans (by decide) hk)) T.f__law_words (takes_of rfl rfl rfl rfl) (ra_cons (re_ix ixd_seq (rp_var 0) (RE.p re_int)) ra_nil)) (ra_cons (re_call D_self (hr.mono (Nat.le_refl _)) T.f__law_rule_text (takes_of rfl rfl rfl rfl) (ra_cons (re_ix ixd_seq (rp_var 0) (RE.p re_int)) ra_nil)) (ra_cons (re_call D_self (hr.mono (Nat.le_refl _)) T.f__law_rule_text (takes_of rfl rfl rfl rfl) (ra_cons (re_ix ixd_seq (rp_var 0) (RE.p re_int)) ra_nil)) ra_nil))))))))))
/-! ### _law_same_rule -/
abbrev s__law_same_rule : Stmt := topS 69
abbrev N__law_same_rule : List Str := ["_law_rule_here", "_law_tree_here"]
theorem sc__law_same_rule : FnScope N__law_same_rule ["_law_rule_here", "_law_tree_here"] (defScope s__law_same_rule) := ⟨rfl, rfl, rfl, by decide +kernel, rfl, by decide +kernel, by decide +kernel⟩
def tb__law_same_rule (K : PySem.W.Frag) (C_Rule C_Straight C_Stopped C_Parted : Addr) (GG : DF) : DS :=
  (dSq (dIf (dNot (dTest (dCB (kIsi K) (dCons (dVarP 0) (dCons (dC (.cls C_Rule)) dNil))))) (dRet (dC (.bl false))) dNext) (dSq (dIf (dTest (dOp kEq (dOp kIx (dVarP 1) (dC (.int 0))) (dC (.str "straight")))) (dSq (dIf (dNot (dTest (dCB (kIsi K) (dCons (dVarP 0) (dCons (dC (.cls C_Straight)) dNil))))) (dRet (dC (.bl false))) dNext) (dRet (dOp kEq (dTup (dCons (dFld K "numbers" (dVar 0)) (dCons (dFld K "add" (dVar 0)) (dCons (dFld K "divisor" (dVar 0)) dNil)))) (dTup (dCons (dOp kIx (dVarP 1) (dC (.int 1))) (dCons (dOp kIx (dVarP 1) (dC (.int 2))) (dCons (dOp kIx (dVarP 1) (dC (.int 3))) dNil))))))) dNext) (dSq (dIf (dTest (dOp kEq (dOp kIx (dVarP 1) (dC (.int 0))) (dC (.str "stopped")))) (dSq (dIf (dOr (dNot (dTest (dCB (kIsi K) (dCons (dVarP 0) (dCons (dC (.cls C_Stopped)) dNil))))) (dTest (dOp kNe (dTup (dCons (dFld K "low" (dVar 0)) (dCons (dFld K "high" (dVar 0)) dNil))) (dTup (dCons (dOp kIx (dVarP 1) (dC (.int 2))) (dCons (dOp kIx (dVarP 1) (dC (.int 3))) dNil)))))) (dRet (dC (.bl false))) dNext) (dRet (dCall 2 [] GG (dCons (dFld K "rule" (dVar 0)) (dCons (dOp kIx (dVarP 1) (dC (.int 1))) dNil))))) dNext) (dSq (dIf (dOr (dNot (dTest (dCB (kIsi K) (dCons (dVarP 0) (dCons (dC (.cls C_Parted)) dNil))))) (dOr (dTest (dOp kNe (dFld K "row" (dVar 0)) (dOp kIx (dVarP 1) (dC (.int 1))))) (dNot (dTest (dCB (kIsi K) (dCons (dFld K "row" (dVar 0)) (dCons (dC (.ty "tuple")) dNil))))))) (dRet (dC (.bl false))) dNext) (dRet (dAndV (dCall 2 [] GG (dCons (dFld K "rule" (dVar 0)) (dCons (dOp kIx (dVarP 1) (dC (.int 2))) dNil))) (dCall 2 [] GG (dCons (dFld K "other" (dVar 0)) (dCons (dOp kIx (dVarP 1) (dC (.int 3))) dNil)))))))))
theorem der__law_same_rule (T : Txt K mg a_Settles_init a_Comes_init a_is_whole a_own a_own_list a_are_wholes a_is_row a_is_room a_is_table a_Mode_init a_is_mode a_is_push a_Thing_init a_Thing_pushes a_Thing_modes a_Straight_init a_Stopped_init a_Parted_init a_words_in a_read_number a_read_numbers a_show_numbers a_show_room a_read_room a_show_rule a_rule_at a_read_rule a_show_claim a_claim_of a_read_claim a_rows_of_mode a_show_thing a_headed a_read_mode a_read_thing a__law_cell_at a__law_stream a__law_number a__law_words a__law_leaf a__law_tree a__law_rule a__law_rule_text a__law_same_rule a__law_rows a__law_room_text a__law_claims a__law_parts a__law_thing_text a__law_things a_law C_BadThing C_TooMany C_Claim C_Settles C_Comes C_Mode C_Thing C_Rule C_Straight C_Stopped C_Parted) {kk : Nat} {GG : DF} (hk : 0 ≤ kk) (D_self : FD P w K mg base kk a__law_same_rule 2 [] GG)
    {f : Addr} {cdv : Value} {A : Around} {outer : List Env} {s : Shared} {H : Hp} {E : XK} (hr : Room kk (A.deeper (envOfC "_law_same_rule" (defScope s__law_same_rule) s.heap.objs.size f cdv))) :
    RSs (cxOf (L2.CX P w) P w K mg base N__law_same_rule "_law_same_rule" (defScope s__law_same_rule) f cdv A outer s H E) (WF E) (defBody s__law_same_rule) (tb__law_same_rule K C_Rule C_Straight C_Stopped C_Parted GG) :=
  (rss_cons (rs_if (rt_not (rt_val (RE.p (re_callB (cd_isi (K := K)) T.b_isinstance (rpa_cons (rp_var 0) (rpa_cons (RE.p (re_glob T.c_Rule rfl)) rpa_nil)))))) (rss_one (rs_ret re_bl)) rss_nil) (rss_cons (rs_if (rt_cmp (opd_eq hr.units) (RE.p (re_ix ixd_seq (rp_var 1) (RE.p re_int))) (RE.p re_str)) (rss_cons (rs_if (rt_not (rt_val (RE.p (re_callB (cd_isi (K := K)) T.b_isinstance (rpa_cons (rp_var 0) (rpa_cons (RE.p (re_glob T.c_Straight rfl)) rpa_nil)))))) (rss_one (rs_ret re_bl)) rss_nil) (rss_one (rs_ret (re_cmp (opd_eq hr.units) (RE.p (re_tup (ra_cons (re_fld (K := K) (re_var 0)) (ra_cons (re_fld (K := K) (re_var 0)) (ra_cons (re_fld (K := K) (re_var 0)) ra_nil))))) (RE.p (re_tup (ra_cons (re_ix ixd_seq (rp_var 1) (RE.p re_int)) (ra_cons (re_ix ixd_seq (rp_var 1) (RE.p re_int)) (ra_cons (re_ix ixd_seq (rp_var 1) (RE.p re_int)) ra_nil))))))))) rss_nil) (rss_cons (rs_if (rt_cmp (opd_eq hr.units) (RE.p (re_ix ixd_seq (rp_var 1) (RE.p re_int))) (RE.p re_str)) (rss_cons (rs_if (RW.toT (rw_or (rt_not (rt_val (RE.p (re_callB (cd_isi (K := K)) T.b_isinstance (rpa_cons (rp_var 0) (rpa_cons (RE.p (re_glob T.c_Stopped rfl)) rpa_nil)))))) (rw_or1 (rt_cmp (opd_ne hr.units) (RE.p (re_tup (ra_cons (re_fld (K := K) (re_var 0)) (ra_cons (re_fld (K := K) (re_var 0)) ra_nil)))) (RE.p (re_tup (ra_cons (re_ix ixd_seq (rp_var 1) (RE.p re_int)) (ra_cons (re_ix ixd_seq (rp_var 1) (RE.p re_int)) ra_nil)))))))) (rss_one (rs_ret re_bl)) rss_nil) (rss_one (rs_ret (re_call D_self (hr.mono (Nat.le_refl _)) T.f__law_same_rule (takes_of rfl rfl rfl rfl) (ra_cons (re_fld (K := K) (re_var 0)) (ra_cons (re_ix ixd_seq (rp_var 1) (RE.p re_int)) ra_nil)))))) rss_nil) (rss_cons (rs_if (RW.toT (rw_or (rt_not (rt_val (RE.p (re_callB (cd_isi (K := K)) T.b_isinstance (rpa_cons (rp_var 0) (rpa_cons (RE.p (re_glob T.c_Parted rfl)) rpa_nil)))))) (rw_or (rt_cmp (opd_ne hr.units) (RE.p (re_fld (K := K) (re_var 0))) (RE.p (re_ix ixd_seq (rp_var 1) (RE.p re_int)))) (rw_or1 (rt_not (rt_val (RE.p (re_callB (cd_isi (K := K)) T.b_isinstance (rpa_cons (RE.p (re_fld (K := K) (re_var 0))) (rpa_cons (RE.p (re_ty T.b_tuple (by decide +kernel))) rpa_nil)))))))))) (rss_one (rs_ret re_bl)) rss_nil) (rss_one (rs_ret (re_and (RE.p (re_call D_self (hr.mono (Nat.le_refl _)) T.f__law_same_rule (takes_of rfl rfl rfl rfl) (ra_cons (re_fld (K := K) (re_var 0)) (ra_cons (re_ix ixd_seq (rp_var 1) (RE.p re_int)) ra_nil)))) (re_one (re_call D_self (hr.mono (Nat.le_refl _)) T.f__law_same_rule (takes_of rfl rfl rfl rfl) (ra_cons (re_fld (K := K) (re_var 0)) (ra_cons (re_ix ixd_seq (rp_var 1) (RE.p re_int)) ra_nil)))))))))))
/-! ### _law_rows -/
abbrev s__law_rows : Stmt := topS 70
abbrev N__law_rows : List Str := ["_law_cell", "_law_many", "_law_count", "_law_xs", "_law_number_here", "_law_k"]
theorem sc__law_rows : FnScope N__law_rows ["_law_cell", "_law_many", "_law_count"] (defScope s__law_rows) := ⟨rfl, rfl, rfl, by decide +kernel, rfl, by decide +kernel, by decide +kernel⟩
def tb__law_rows  : DS :=
  (dSq (dSet 3 (dCall 2 [] g__law_stream (dCons (dVar 0) (dCons (dOp kMul (dC (.int 4)) (dVarP 2)) dNil)))) (dRet (dFz (dLcN (dRng1 (dVarP 2)) (gNm 5) dYes (dCB kTuple (dCons (dFz (dLcN (dSeq (dSl (dVarP 3) (dPart (dOp kMul (dC (.int 4)) (dVarP 5))) (dPart (dOp kAdd (dOp kAdd (dOp kMul (dC (.int 4)) (dVarP 5)) (dVarP 1)) (dC (.int 1)))))) (gNm 4) dYes (dCall 1 [] g__law_number (dCons (dVar 4) dNil)) [4])) dNil)) [5]))))
theorem der__law_rows (T : Txt K mg a_Settles_init a_Comes_init a_is_whole a_own a_own_list a_are_wholes a_is_row a_is_room a_is_table a_Mode_init a_is_mode a_is_push a_Thing_init a_Thing_pushes a_Thing_modes a_Straight_init a_Stopped_init a_Parted_init a_words_in a_read_number a_read_numbers a_show_numbers a_show_room a_read_room a_show_rule a_rule_at a_read_rule a_show_claim a_claim_of a_read_claim a_rows_of_mode a_show_thing a_headed a_read_mode a_read_thing a__law_cell_at a__law_stream a__law_number a__law_words a__law_leaf a__law_tree a__law_rule a__law_rule_text a__law_same_rule a__law_rows a__law_room_text a__law_claims a__law_parts a__law_thing_text a__law_things a_law C_BadThing C_TooMany C_Claim C_Settles C_Comes C_Mode C_Thing C_Rule C_Straight C_Stopped C_Parted) (D__law_stream : FD P w K mg base 1 a__law_stream 2 [] g__law_stream) (D__law_number : FD P w K mg base 1 a__law_number 1 [] g__law_number)
    {f : Addr} {cdv : Value} {A : Around} {outer : List Env} {s : Shared} {H : Hp} {E : XK} (hr : Room 1 (A.deeper (envOfC "_law_rows" (defScope s__law_rows) s.heap.objs.size f cdv))) :
    RSs (cxOf (L2.CX P w) P w K mg base N__law_rows "_law_rows" (defScope s__law_rows) f cdv A outer s H E) (WF E) (defBody s__law_rows) (tb__law_rows) :=
  (rss_cons (rs_set 3 sc__law_rows.nd (re_call D__law_stream (hr.mono (by decide)) T.f__law_stream (takes_of rfl rfl rfl rfl) (ra_cons (re_var 0) (ra_cons (re_op opd_mul (RE.p re_int) (rp_var 2)) ra_nil)))) (rss_one (rs_ret (by exact (RN.e (rn_lc sc__law_rows.nd (ri_range1 (rp_var 2) T.b_range) (blkOk_by (own := [("_law_k", 5)]) (N := N__law_rows) (sc := (defScope s__law_rows)) (by decide +kernel)) (fun _ _ _ _ _ => (rg_name 5 sc__law_rows.nd)) (fun _ _ _ _ _ => rts_nil) (fun _ _ _ _ _ => (re_callTy cd_tuple T.b_tuple (rpa_cons (RE.p (by exact (RN.e (rn_lc sc__law_rows.nd (ri_seq (re_slice (rp_var 3) (ro_some (RE.p (re_op opd_mul (RE.p re_int) (rp_var 5)))) (ro_some (RE.p (re_op opd_add (RE.p (re_op opd_add (RE.p (re_op opd_mul (RE.p re_int) (rp_var 5))) (rp_var 1))) (RE.p re_int)))))) (blkOk_by (own := [("_law_number_here", 4)]) (N := N__law_rows) (by rfl)) (fun _ _ _ _ _ => (rg_name 4 sc__law_rows.nd)) (fun _ _ _ _ _ => rts_nil) (fun _ _ _ _ _ => (re_call D__law_number (hr.mono (by decide)) T.f__law_number takes0 (ra_cons (re_var 4) ra_nil))))))) rpa_nil)))))))))
/-! ### _law_room_text -/
abbrev s__law_room_text : Stmt := topS 71
abbrev N__law_room_text : List Str := ["_law_room", "_law_row"]
theorem sc__law_room_text : FnScope N__law_room_text ["_law_room"] (defScope s__law_room_text) := ⟨rfl, rfl, rfl, by decide +kernel, rfl, by decide +kernel, by decide +kernel⟩
def tb__law_room_text  : DS :=
  (dSq (dIf (dTest (dOp kEqZ (dVarP 0) (dLst dNil))) (dRet (dC (.str "all"))) dNext) (dRet (dJoin (dC (.str ", ")) (dFz (dLcN (dSeq (dVar 0)) (gNm 1) dYes (dCall 1 [] g__law_words (dCons (dVar 1) dNil)) [1])))))
theorem der__law_room_text (T : Txt K mg a_Settles_init a_Comes_init a_is_whole a_own a_own_list a_are_wholes a_is_row a_is_room a_is_table a_Mode_init a_is_mode a_is_push a_Thing_init a_Thing_pushes a_Thing_modes a_Straight_init a_Stopped_init a_Parted_init a_words_in a_read_number a_read_numbers a_show_numbers a_show_room a_read_room a_show_rule a_rule_at a_read_rule a_show_claim a_claim_of a_read_claim a_rows_of_mode a_show_thing a_headed a_read_mode a_read_thing a__law_cell_at a__law_stream a__law_number a__law_words a__law_leaf a__law_tree a__law_rule a__law_rule_text a__law_same_rule a__law_rows a__law_room_text a__law_claims a__law_parts a__law_thing_text a__law_things a_law C_BadThing C_TooMany C_Claim C_Settles C_Comes C_Mode C_Thing C_Rule C_Straight C_Stopped C_Parted) (D__law_words : FD P w K mg base 1 a__law_words 1 [] g__law_words)
    {f : Addr} {cdv : Value} {A : Around} {outer : List Env} {s : Shared} {H : Hp} {E : XK} (hr : Room 1 (A.deeper (envOfC "_law_room_text" (defScope s__law_room_text) s.heap.objs.size f cdv))) :
    RSs (cxOf (L2.CX P w) P w K mg base N__law_room_text "_law_room_text" (defScope s__law_room_text) f cdv A outer s H E) (WF E) (defBody s__law_room_text) (tb__law_room_text) :=
  (rss_cons (rs_if (rt_cmp (opd_eqZ hr.units) (rp_var 0) (RE.p (re_lst ra_nil))) (rss_one (rs_ret re_str)) rss_nil) (rss_one (rs_ret (re_join (RE.p re_str) (by exact (RN.e (rn_lc sc__law_room_text.nd (ri_seq (re_var 0)) (blkOk_by (own := [("_law_row", 1)]) (N := N__law_room_text) (sc := (defScope s__law_room_text)) (by decide +kernel)) (fun _ _ _ _ _ => (rg_name 1 sc__law_room_text.nd)) (fun _ _ _ _ _ => rts_nil) (fun _ _ _ _ _ => (re_call D__law_words (hr.mono (by decide)) T.f__law_words takes0 (ra_cons (re_var 1) ra_nil))))))))))
/-! ### _law_claims -/
abbrev s__law_claims : Stmt := topS 72
abbrev N__law_claims : List Str := ["_law_script", "_law_many", "_law_cell", "_law_first", "_law_second", "_law_turn", "_law_rooms", "_law_one", "_law_found", "_law_other"]
theorem sc__law_claims : FnScope N__law_claims ["_law_script", "_law_many"] (defScope s__law_claims) := ⟨rfl, rfl, rfl, by decide +kernel, rfl, by decide +kernel, by decide +kernel⟩
def tb__law_claims (K : PySem.W.Frag) (C_Settles C_Comes C_Claim : Addr) : DS :=
  (dSq (dSet 2 (dCall 2 [] g__law_cell_at (dCons (dVar 0) (dCons (dC (.int 7)) dNil)))) (dSq (dSet 3 (dCall 3 [] g__law_rows (dCons (dOp kDiv (dVarP 2) (dC (.int 25))) (dCons (dVar 1) (dCons (dOp kMod (dVarP 2) (dC (.int 5))) dNil))))) (dSq (dSet 4 (dCall 3 [] g__law_rows (dCons (dOp kAdd (dOp kDiv (dVarP 2) (dC (.int 25))) (dC (.int 5))) (dCons (dVar 1) (dCons (dOp kMod (dOp kDiv (dVarP 2) (dC (.int 5))) (dC (.int 5))) dNil))))) (dSq (dSet 5 (dCB k_abs (dCons (dCall 1 [] g__law_number (dCons (dOp kMod (dOp kDiv (dVarP 2) (dC (.int 3))) (dC (.int 2147483647))) dNil)) dNil))) (dSq (dSet 6 (dOp kAdd (dOp kAdd (dOp kAdd (dC (.str " | ")) (dCall 1 [] g__law_room_text (dCons (dVar 3) dNil))) (dC (.str " | "))) (dCall 1 [] g__law_room_text (dCons (dVar 4) dNil)))) (dSq (dSet 7 (dMake 4 C_Settles [] g_Settles_init (dCons (dCB kList (dCons (dVarP 3) dNil)) (dCons (dCB kList (dCons (dVarP 4) dNil)) (dCons (dVar 5) dNil))))) (dSq (dIf (dTest (dOp kNe (dCall 1 [] (g_show_claim C_Settles C_Comes) (dCons (dVar 7) dNil)) (dOp kAdd (dOp kAdd (dC (.str "settles ")) (dCB kStrI (dCons (dVarP 5) dNil))) (dVarP 6)))) (dRet (dC (.bl false))) dNext) (dSq (dSet 8 (dCall 2 [] (g_read_claim C_Settles C_Comes) (dCons (dOp kAdd (dOp kAdd (dC (.str "settles ")) (dCB kStrI (dCons (dVarP 5) dNil))) (dVarP 6)) (dCons (dVar 1) dNil)))) (dSq (dIf (dOr (dNot (dTest (dCB (kIsi K) (dCons (dVarP 8) (dCons (dC (.cls C_Settles)) dNil))))) (dOr (dTest (dCB (kIsi K) (dCons (dVarP 8) (dCons (dC (.cls C_Comes)) dNil)))) (dNot (dTest (dCB (kIsi K) (dCons (dVarP 8) (dCons (dC (.cls C_Claim)) dNil))))))) (dRet (dC (.bl false))) dNext) (dSq (dIf (dTest (dOp kNe (dTup (dCons (dFld K "start" (dVar 8)) (dCons (dFld K "rows" (dVar 8)) (dCons (dFld K "turn" (dVar 8)) dNil)))) (dTup (dCons (dVar 3) (dCons (dVar 4) (dCons (dVar 5) dNil)))))) (dRet (dC (.bl false))) dNext) (dSq (dSet 9 (dMake 4 C_Comes [] g_Comes_init (dCons (dCB kList (dCons (dVarP 3) dNil)) (dCons (dCB kList (dCons (dVarP 4) dNil)) (dCons (dVar 5) dNil))))) (dSq (dIf (dTest (dOp kNe (dCall 1 [] (g_show_claim C_Settles C_Comes) (dCons (dVar 9) dNil)) (dOp kAdd (dOp kAdd (dC (.str "comes ")) (dCB kStrI (dCons (dVarP 5) dNil))) (dVarP 6)))) (dRet (dC (.bl false))) dNext) (dSq (dSet 8 (dCall 2 [] (g_read_claim C_Settles C_Comes) (dCons (dOp kAdd (dOp kAdd (dC (.str "comes ")) (dCB kStrI (dCons (dVarP 5) dNil))) (dVarP 6)) (dCons (dVar 1) dNil)))) (dSq (dIf (dOr (dNot (dTest (dCB (kIsi K) (dCons (dVarP 8) (dCons (dC (.cls C_Comes)) dNil))))) (dTest (dCB (kIsi K) (dCons (dVarP 8) (dCons (dC (.cls C_Settles)) dNil))))) (dRet (dC (.bl false))) dNext) (dRet (dOp kEq (dTup (dCons (dFld K "start" (dVar 8)) (dCons (dFld K "goal" (dVar 8)) (dCons (dFld K "turns" (dVar 8)) dNil)))) (dTup (dCons (dVar 3) (dCons (dVar 4) (dCons (dVar 5) dNil))))))))))))))))))))
theorem der__law_claims (T : Txt K mg a_Settles_init a_Comes_init a_is_whole a_own a_own_list a_are_wholes a_is_row a_is_room a_is_table a_Mode_init a_is_mode a_is_push a_Thing_init a_Thing_pushes a_Thing_modes a_Straight_init a_Stopped_init a_Parted_init a_words_in a_read_number a_read_numbers a_show_numbers a_show_room a_read_room a_show_rule a_rule_at a_read_rule a_show_claim a_claim_of a_read_claim a_rows_of_mode a_show_thing a_headed a_read_mode a_read_thing a__law_cell_at a__law_stream a__law_number a__law_words a__law_leaf a__law_tree a__law_rule a__law_rule_text a__law_same_rule a__law_rows a__law_room_text a__law_claims a__law_parts a__law_thing_text a__law_things a_law C_BadThing C_TooMany C_Claim C_Settles C_Comes C_Mode C_Thing C_Rule C_Straight C_Stopped C_Parted) (D_show_claim : FD P w K mg base 3 a_show_claim 1 [] (g_show_claim C_Settles C_Comes)) (D_read_claim : FD P w K mg base 5 a_read_claim 2 [] (g_read_claim C_Settles C_Comes)) (D__law_cell_at : FD P w K mg base 1 a__law_cell_at 2 [] g__law_cell_at) (D__law_number : FD P w K mg base 1 a__law_number 1 [] g__law_number) (D__law_rows : FD P w K mg base 2 a__law_rows 3 [] g__law_rows) (D__law_room_text : FD P w K mg base 2 a__law_room_text 1 [] g__law_room_text) (I_Comes : FI P w K mg base 1 C_Comes 4 [] g_Comes_init) (I_Settles : FI P w K mg base 1 C_Settles 4 [] g_Settles_init)
    {f : Addr} {cdv : Value} {A : Around} {outer : List Env} {s : Shared} {H : Hp} {E : XK} (hr : Room 5 (A.deeper (envOfC "_law_claims" (defScope s__law_claims) s.heap.objs.size f cdv))) :
    RSs (cxOf (L2.CX P w) P w K mg base N__law_claims "_law_claims" (defScope s__law_claims) f cdv A outer s H E) (WF E) (defBody s__law_claims) (tb__law_claims K C_Settles C_Comes C_Claim) :=
  (rss_cons (rs_set 2 sc__law_claims.nd (re_call D__law_cell_at (hr.mono (by decide)) T.f__law_cell_at (takes_of rfl rfl rfl rfl) (ra_cons (re_var 0) (ra_cons re_int ra_nil)))) (rss_cons (rs_set 3 sc__law_claims.nd (re_call D__law_rows (hr.mono (by decide)) T.f__law_rows (takes_of rfl rfl rfl rfl) (ra_cons (re_op opd_div (rp_var 2) (RE.p re_int)) (ra_cons (re_var 1) (ra_cons (re_op opd_mod (rp_var 2) (RE.p re_int)) ra_nil))))) (rss_cons (rs_set 4 sc__law_claims.nd (re_call D__law_rows (hr.mono (by decide)) T.f__law_rows (takes_of rfl rfl rfl rfl) (ra_cons (re_op opd_add (RE.p (re_op opd_div (rp_var 2) (RE.p re_int))) (RE.p re_int)) (ra_cons (re_var 1) (ra_cons (re_op opd_mod (RE.p (re_op opd_div (rp_var 2) (RE.p re_int))) (RE.p re_int)) ra_nil))))) (rss_cons (rs_set 5 sc__law_claims.nd (re_callB cd_abs T.b_abs (rpa_cons (RE.p (re_call D__law_number (hr.mono (by decide)) T.f__law_number (takes_of rfl rfl rfl rfl) (ra_cons (re_op opd_mod (RE.p (re_op opd_div (rp_var 2) (RE.p re_int))) (RE.p re_int)) ra_nil))) rpa_nil))) (rss_cons (rs_set 6 sc__law_claims.nd (re_op opd_add (RE.p (re_op opd_add (RE.p (re_op opd_add (RE.p re_str) (RE.p (re_call D__law_room_text (hr.mono (by decide)) T.f__law_room_text (takes_of rfl rfl rfl rfl) (ra_cons (re_var 3) ra_nil))))) (RE.p re_str))) (RE.p (re_call D__law_room_text (hr.mono (by decide)) T.f__law_room_text (takes_of rfl rfl rfl rfl) (ra_cons (re_var 4) ra_nil))))) (rss_cons (rs_set 7 sc__law_claims.nd (re_make I_Settles (hr.mono (by decide)) T.c_Settles (takes_of rfl rfl rfl rfl) (ra_cons (re_callTy cd_list T.b_list (rpa_cons (rp_var 3) rpa_nil)) (ra_cons (re_callTy cd_list T.b_list (rpa_cons (rp_var 4) rpa_nil)) (ra_cons (re_var 5) ra_nil))))) (rss_cons (rs_if (rt_cmp (opd_ne hr.units) (RE.p (re_call D_show_claim (hr.mono (by decide)) T.f_show_claim (takes_of rfl rfl rfl rfl) (ra_cons (re_var 7) ra_nil))) (RE.p (re_op opd_add (RE.p (re_op opd_add (RE.p re_str) (RE.p (re_callTy cd_strI T.b_str (rpa_cons (rp_var 5) rpa_nil))))) (rp_var 6)))) (rss_one (rs_ret re_bl)) rss_nil) (rss_cons (rs_set 8 sc__law_claims.nd (re_call D_read_claim (hr.mono (by decide)) T.f_read_claim (takes_of rfl rfl rfl rfl) (ra_cons (re_op opd_add (RE.p (re_op opd_add (RE.p re_str) (RE.p (re_callTy cd_strI T.b_str (rpa_cons (rp_var 5) rpa_nil))))) (rp_var 6)) (ra_cons (re_var 1) ra_nil)))) (rss_cons (rs_if (RW.toT (rw_or (rt_not (rt_val (RE.p (re_callB (cd_isi (K := K)) T.b_isinstance (rpa_cons (rp_var 8) (rpa_cons (RE.p (re_glob T.c_Settles rfl)) rpa_nil)))))) (rw_or (rt_val (RE.p (re_callB (cd_isi (K := K)) T.b_isinstance (rpa_cons (rp_var 8) (rpa_cons (RE.p (re_glob T.c_Comes rfl)) rpa_nil))))) (rw_or1 (rt_not (rt_val (RE.p (re_callB (cd_isi (K := K)) T.b_isinstance (rpa_cons (rp_var 8) (rpa_cons (RE.p (re_glob T.c_Claim rfl)) rpa_nil)))))))))) (rss_one (rs_ret re_bl)) rss_nil) (rss_cons (rs_if (rt_cmp (opd_ne hr.units) (RE.p (re_tup (ra_cons (re_fld (K := K) (re_var 8)) (ra_cons (re_fld (K := K) (re_var 8)) (ra_cons (re_fld (K := K) (re_var 8)) ra_nil))))) (RE.p (re_tup (ra_cons (re_var 3) (ra_cons (re_var 4) (ra_cons (re_var 5) ra_nil)))))) (rss_one (rs_ret re_bl)) rss_nil) (rss_cons (rs_set 9 sc__law_claims.nd (re_make I_Comes (hr.mono (by decide)) T.c_Comes (takes_of rfl rfl rfl rfl) (ra_cons (re_callTy cd_list T.b_list (rpa_cons (rp_var 3) rpa_nil)) (ra_cons (re_callTy cd_list T.b_list (rpa_cons (rp_var 4) rpa_nil)) (ra_cons (re_var 5) ra_nil))))) (rss_cons (rs_if (rt_cmp (opd_ne hr.units) (RE.p (re_call D_show_claim (hr.mono (by decide)) T.f_show_claim (takes_of rfl rfl rfl rfl) (ra_cons (re_var 9) ra_nil))) (RE.p (re_op opd_add (RE.p (re_op opd_add (RE.p re_str) (RE.p (re_callTy cd_strI T.b_str (rpa_cons (rp_var 5) rpa_nil))))) (rp_var 6)))) (rss_one (rs_ret re_bl)) rss_nil) (rss_cons (rs_set 8 sc__law_claims.nd (re_call D_read_claim (hr.mono (by decide)) T.f_read_claim (takes_of rfl rfl rfl rfl) (ra_cons (re_op opd_add (RE.p (re_op opd_add (RE.p re_str) (RE.p (re_callTy cd_strI T.b_str (rpa_cons (rp_var 5) rpa_nil))))) (rp_var 6)) (ra_cons (re_var 1) ra_nil)))) (rss_cons (rs_if (RW.toT (rw_or (rt_not (rt_val (RE.p (re_callB (cd_isi (K := K)) T.b_isinstance (rpa_cons (rp_var 8) (rpa_cons (RE.p (re_glob T.c_Comes rfl)) rpa_nil)))))) (rw_or1 (rt_val (RE.p (re_callB (cd_isi (K := K)) T.b_isinstance (rpa_cons (rp_var 8) (rpa_cons (RE.p (re_glob T.c_Settles rfl)) rpa_nil)))))))) (rss_one (rs_ret re_bl)) rss_nil) (rss_one (rs_ret (re_cmp (opd_eq hr.units) (RE.p (re_tup (ra_cons (re_fld (K := K) (re_var 8)) (ra_cons (re_fld (K := K) (re_var 8)) (ra_cons (re_fld (K := K) (re_var 8)) ra_nil))))) (RE.p (re_tup (ra_cons (re_var 3) (ra_cons (re_var 4) (ra_cons (re_var 5) ra_nil))))))))))))))))))))))
/-! ### _law_parts -/
abbrev s__law_parts : Stmt := topS 73
abbrev N__law_parts : List Str := ["_law_cell", "_law_many", "_law_wide", "_law_xs", "_law_numbers", "_law_number_here", "_law_rows_here", "_law_k", "_law_nexts", "_law_i", "_law_push"]
theorem sc__law_parts : FnScope N__law_parts ["_law_cell", "_law_many", "_law_wide"] (defScope s__law_parts) := ⟨rfl, rfl, rfl, by decide +kernel, rfl, by decide +kernel, by decide +kernel⟩
def tb__law_parts  : DS :=
  (dSq (dSet 3 (dCall 2 [] g__law_stream (dCons (dVar 0) (dCons (dC (.int 60)) dNil)))) (dSq (dSet 4 (dFz (dLcN (dSeq (dVar 3)) (gNm 5) dYes (dCall 1 [] g__law_number (dCons (dVar 5) dNil)) [5]))) (dSq (dSet 6 (dLc (dRng1 (dOp kMod (dOp kIx (dVarP 3) (dC (.int 59))) (dC (.int 4)))) (gNm 7) dYes (dCB kTuple (dCons (dSl (dVarP 4) (dPart (dOp kMul (dC (.int 4)) (dVarP 7))) (dPart (dOp kAdd (dOp kAdd (dOp kMul (dC (.int 4)) (dVarP 7)) (dVarP 1)) (dC (.int 1))))) dNil)) [7])) (dSq (dSet 8 (dLc (dRng1 (dVarP 1)) (gNm 9) dYes (dSl (dVarP 4) (dPart (dOp kAdd (dC (.int 12)) (dOp kMul (dC (.int 3)) (dVarP 9)))) (dPart (dOp kAdd (dOp kAdd (dC (.int 12)) (dOp kMul (dC (.int 3)) (dVarP 9))) (dVarP 1)))) [9])) (dSq (dSet 10 (dLc (dRng1 (dVarP 1)) (gNm 9) dYes (dSl (dVarP 4) (dPart (dOp kAdd (dC (.int 24)) (dOp kMul (dC (.int 6)) (dVarP 9)))) (dPart (dOp kAdd (dOp kAdd (dC (.int 24)) (dOp kMul (dC (.int 6)) (dVarP 9))) (dVarP 2)))) [9])) (dRet (dLst (dCons (dVar 6) (dCons (dVar 8) (dCons (dSl (dVarP 4) (dPart (dC (.int 21))) (dPart (dOp kAdd (dC (.int 21)) (dVarP 1)))) (dCons (dVar 10) (dCons (dSl (dVarP 4) (dPart (dC (.int 42))) (dPart (dOp kAdd (dC (.int 42)) (dVarP 1)))) (dCons (dOp kAdd (dC (.int 1)) (dOp kMod (dCB k_abs (dCons (dOp kIx (dVarP 4) (dC (.int 58))) dNil)) (dOp kSub (dOp kPow (dC (.int 10)) (dC (.int 60))) (dC (.int 1))))) dNil)))))))))))))
theorem der__law_parts (T : Txt K mg a_Settles_init a_Comes_init a_is_whole a_own a_own_list a_are_wholes a_is_row a_is_room a_is_table a_Mode_init a_is_mode a_is_push a_Thing_init a_Thing_pushes a_Thing_modes a_Straight_init a_Stopped_init a_Parted_init a_words_in a_read_number a_read_numbers a_show_numbers a_show_room a_read_room a_show_rule a_rule_at a_read_rule a_show_claim a_claim_of a_read_claim a_rows_of_mode a_show_thing a_headed a_read_mode a_read_thing a__law_cell_at a__law_stream a__law_number a__law_words a__law_leaf a__law_tree a__law_rule a__law_rule_text a__law_same_rule a__law_rows a__law_room_text a__law_claims a__law_parts a__law_thing_text a__law_things a_law C_BadThing C_TooMany C_Claim C_Settles C_Comes C_Mode C_Thing C_Rule C_Straight C_Stopped C_Parted) (D__law_stream : FD P w K mg base 1 a__law_stream 2 [] g__law_stream) (D__law_number : FD P w K mg base 1 a__law_number 1 [] g__law_number)
    {f : Addr} {cdv : Value} {A : Around} {outer : List Env} {s : Shared} {H : Hp} {E : XK} (hr : Room 1 (A.deeper (envOfC "_law_parts" (defScope s__law_parts) s.heap.objs.size f cdv))) :
    RSs (cxOf (L2.CX P w) P w K mg base N__law_parts "_law_parts" (defScope s__law_parts) f cdv A outer s H E) (WF E) (defBody s__law_parts) (tb__law_parts) :=
  (rss_cons (rs_set 3 sc__law_parts.nd (re_call D__law_stream (hr.mono (by decide)) T.f__law_stream (takes_of rfl rfl rfl rfl) (ra_cons (re_var 0) (ra_cons re_int ra_nil)))) (rss_cons (rs_set 4 sc__law_parts.nd (RN.e (rn_lc sc__law_parts.nd (ri_seq (re_var 3)) (blkOk_by (own := [("_law_number_here", 5)]) (N := N__law_parts) (sc := (defScope s__law_parts)) (by decide +kernel)) (fun _ _ _ _ _ => (rg_name 5 sc__law_parts.nd)) (fun _ _ _ _ _ => rts_nil) (fun _ _ _ _ _ => (re_call D__law_number (hr.mono (by decide)) T.f__law_number takes0 (ra_cons (re_var 5) ra_nil)))))) (rss_cons (rs_setLc 6 sc__law_parts.nd (ri_range1 (RE.p (re_op opd_mod (RE.p (re_ix ixd_seq (rp_var 3) (RE.p re_int))) (RE.p re_int))) T.b_range) (blkOk_by (own := [("_law_k", 7)]) (N := N__law_parts) (sc := (defScope s__law_parts)) (by decide +kernel)) (fun _ _ _ _ _ => (rg_name 7 sc__law_parts.nd)) (fun _ _ _ _ _ => rts_nil) (fun _ _ _ _ _ => (re_callTy cd_tuple T.b_tuple (rpa_cons (RE.p (re_slice (rp_var 4) (ro_some (RE.p (re_op opd_mul (RE.p re_int) (rp_var 7)))) (ro_some (RE.p (re_op opd_add (RE.p (re_op opd_add (RE.p (re_op opd_mul (RE.p re_int) (rp_var 7))) (rp_var 1))) (RE.p re_int)))))) rpa_nil))) (sw_true rfl rfl rfl (by decide +kernel))) (rss_cons (rs_setLc 8 sc__law_parts.nd (ri_range1 (rp_var 1) T.b_range) (blkOk_by (own := [("_law_i", 9)]) (N := N__law_parts) (sc := (defScope s__law_parts)) (by decide +kernel)) (fun _ _ _ _ _ => (rg_name 9 sc__law_parts.nd)) (fun _ _ _ _ _ => rts_nil) (fun _ _ _ _ _ => (re_slice (rp_var 4) (ro_some (RE.p (re_op opd_add (RE.p re_int) (RE.p (re_op opd_mul (RE.p re_int) (rp_var 9)))))) (ro_some (RE.p (re_op opd_add (RE.p (re_op opd_add (RE.p re_int) (RE.p (re_op opd_mul (RE.p re_int) (rp_var 9))))) (rp_var 1)))))) (sw_true rfl rfl rfl (by decide +kernel))) (rss_cons (rs_setLc 10 sc__law_parts.nd (ri_range1 (rp_var 1) T.b_range) (blkOk_by (own := [("_law_i", 9)]) (N := N__law_parts) (sc := (defScope s__law_parts)) (by decide +kernel)) (fun _ _ _ _ _ => (rg_name 9 sc__law_parts.nd)) (fun _ _ _ _ _ => rts_nil) (fun _ _ _ _ _ => (re_slice (rp_var 4) (ro_some (RE.p (re_op opd_add (RE.p re_int) (RE.p (re_op opd_mul (RE.p re_int) (rp_var 9)))))) (ro_some (RE.p (re_op opd_add (RE.p (re_op opd_add (RE.p re_int) (RE.p (re_op opd_mul (RE.p re_int) (rp_var 9))))) (rp_var 2)))))) (sw_true rfl rfl rfl (by decide +kernel))) (rss_one (rs_ret (re_lst (ra_cons (re_var 6) (ra_cons (re_var 8) (ra_cons (re_slice (rp_var 4) (ro_some (RE.p re_int)) (ro_some (RE.p (re_op opd_add (RE.p re_int) (rp_var 1))))) (ra_cons (re_var 10) (ra_cons (re_slice (rp_var 4) (ro_some (RE.p re_int)) (ro_some (RE.p (re_op opd_add (RE.p re_int) (rp_var 1))))) (ra_cons (re_op opd_add (RE.p re_int) (RE.p (re_op opd_mod (RE.p (re_callB cd_abs T.b_abs (rpa_cons (RE.p (re_ix ixd_seq (rp_var 4) (RE.p re_int))) rpa_nil))) (RE.p (re_op opd_sub (RE.p (re_op opd_pow (RE.p re_int) (RE.p re_int))) (RE.p re_int)))))) ra_nil))))))))))))))
/-! ### _law_thing_text -/
abbrev s__law_thing_text : Stmt := topS 74
abbrev N__law_thing_text : List Str := ["_law_many", "_law_pushes", "_law_some", "_law_lines", "_law_one", "_law_rows_here", "_law_nexts", "_law_steer", "_law_push", "_law_add", "_law_divisor", "_law_row", "_law_i", "_law_numbers"]
theorem sc__law_thing_text : FnScope N__law_thing_text ["_law_many", "_law_pushes", "_law_some"] (defScope s__law_thing_text) := ⟨rfl, rfl, rfl, by decide +kernel, rfl, by decide +kernel, by decide +kernel⟩
def tb__law_thing_text  : DS :=
  (dSq (dOwn 3 (dAddN (dLst (dCons (dOp kAdd (dC (.str "numbers ")) (dCB kStrI (dCons (dVarP 0) dNil))) dNil)) (dFz (dLcN (dSeq (dVar 1)) (gNm 4) dYes (dOp kAdd (dC (.str "push ")) (dCall 1 [] g__law_words (dCons (dVar 4) dNil))) [4])))) (dSq (dFor (dSeq (dVar 2)) (gTq 6 (gCs (gNm 5) (gCs (gNm 6) (gCs (gNm 7) (gCs (gNm 8) (gCs (gNm 9) (gCs (gNm 10) gNl))))))) (dSq (dApp 3 (dOp kAdd (dC (.str "mode ")) (dCB kStrI (dCons (dVarP 10) dNil)))) (dSq (dOwn 3 (dAddN (dVarP 3) (dFz (dLcN (dSeq (dVar 5)) (gNm 11) dYes (dOp kAdd (dC (.str "row ")) (dCall 1 [] g__law_words (dCons (dVar 11) dNil))) [11])))) (dFor (dRng1 (dVarP 0)) (gNm 12) (dSq (dSet 13 (dOp kAdd (dOp kAdd (dOp kAdd (dOp kIx (dVarP 6) (dVarP 12)) (dLst (dCons (dOp kIx (dVarP 7) (dVarP 12)) dNil))) (dOp kIx (dVarP 8) (dVarP 12))) (dLst (dCons (dOp kIx (dVarP 9) (dVarP 12)) dNil)))) (dApp 3 (dOp kAdd (dC (.str "next ")) (dCall 1 [] g__law_words (dCons (dVar 13) dNil))))))))) (dFrz 3 (dRet (dJoin (dC (.str "\n")) (dVar 3))))))
theorem der__law_thing_text (T : Txt K mg a_Settles_init a_Comes_init a_is_whole a_own a_own_list a_are_wholes a_is_row a_is_room a_is_table a_Mode_init a_is_mode a_is_push a_Thing_init a_Thing_pushes a_Thing_modes a_Straight_init a_Stopped_init a_Parted_init a_words_in a_read_number a_read_numbers a_show_numbers a_show_room a_read_room a_show_rule a_rule_at a_read_rule a_show_claim a_claim_of a_read_claim a_rows_of_mode a_show_thing a_headed a_read_mode a_read_thing a__law_cell_at a__law_stream a__law_number a__law_words a__law_leaf a__law_tree a__law_rule a__law_rule_text a__law_same_rule a__law_rows a__law_room_text a__law_claims a__law_parts a__law_thing_text a__law_things a_law C_BadThing C_TooMany C_Claim C_Settles C_Comes C_Mode C_Thing C_Rule C_Straight C_Stopped C_Parted) (D__law_words : FD P w K mg base 1 a__law_words 1 [] g__law_words)
    {f : Addr} {cdv : Value} {A : Around} {outer : List Env} {s : Shared} {H : Hp} {E : XK} (hr : Room 1 (A.deeper (envOfC "_law_thing_text" (defScope s__law_thing_text) s.heap.objs.size f cdv))) :
    RSs (cxOf (L2.CX P w) P w K mg base N__law_thing_text "_law_thing_text" (defScope s__law_thing_text) f cdv A outer s H E) (WF E) (defBody s__law_thing_text) (tb__law_thing_text) :=
  (rss_cons (rs_own 3 sc__law_thing_text.nd (rn_addL (RE.p (re_lst (ra_cons (re_op opd_add (RE.p re_str) (RE.p (re_callTy cd_strI T.b_str (rpa_cons (rp_var 0) rpa_nil)))) ra_nil))) (RE.p (by exact (RN.e (rn_lc sc__law_thing_text.nd (ri_seq (re_var 1)) (blkOk_by (own := [("_law_one", 4)]) (N := N__law_thing_text) (sc := (defScope s__law_thing_text)) (by decide +kernel)) (fun _ _ _ _ _ => (rg_name 4 sc__law_thing_text.nd)) (fun _ _ _ _ _ => rts_nil) (fun _ _ _ _ _ => (re_op opd_add (RE.p re_str) (RE.p (re_call D__law_words (hr.mono (by decide)) T.f__law_words takes0 (ra_cons (re_var 4) ra_nil))))))))))) (rss_cons (rs_for (passes_of rfl) (ri_seq (re_var 2)) (rg_tuq (rgs_cons (rg_name 5 sc__law_thing_text.nd) (rgs_cons (rg_name 6 sc__law_thing_text.nd) (rgs_cons (rg_name 7 sc__law_thing_text.nd) (rgs_cons (rg_name 8 sc__law_thing_text.nd) (rgs_cons (rg_name 9 sc__law_thing_text.nd) (rgs_cons (rg_name 10 sc__law_thing_text.nd) rgs_nil))))))) (rss_cons (rs_app 3 (re_op opd_add (RE.p re_str) (RE.p (re_callTy cd_strI T.b_str (rpa_cons (rp_var 10) rpa_nil))))) (rss_cons (rs_own 3 sc__law_thing_text.nd (rn_addL (rp_var 3) (RE.p (by exact (RN.e (rn_lc sc__law_thing_text.nd (ri_seq (re_var 5)) (blkOk_by (own := [("_law_row", 11)]) (N := N__law_thing_text) (sc := (defScope s__law_thing_text)) (by decide +kernel)) (fun _ _ _ _ _ => (rg_name 11 sc__law_thing_text.nd)) (fun _ _ _ _ _ => rts_nil) (fun _ _ _ _ _ => (re_op opd_add (RE.p re_str) (RE.p (re_call D__law_words (hr.mono (by decide)) T.f__law_words takes0 (ra_cons (re_var 11) ra_nil))))))))))) (rss_one (rs_for (passes_of rfl) (ri_range1 (rp_var 0) T.b_range) (rg_name 12 sc__law_thing_text.nd) (rss_cons (rs_set 13 sc__law_thing_text.nd (re_op opd_add (RE.p (re_op opd_add (RE.p (re_op opd_add (RE.p (re_ix ixd_seq (rp_var 6) (rp_var 12))) (RE.p (re_lst (ra_cons (re_ix ixd_seq (rp_var 7) (rp_var 12)) ra_nil))))) (RE.p (re_ix ixd_seq (rp_var 8) (rp_var 12))))) (RE.p (re_lst (ra_cons (re_ix ixd_seq (rp_var 9) (rp_var 12)) ra_nil))))) (rss_one (rs_app 3 (re_op opd_add (RE.p re_str) (RE.p (re_call D__law_words (hr.mono (by decide)) T.f__law_words (takes_of rfl rfl rfl rfl) (ra_cons (re_var 13) ra_nil)))))))))))) (rss_frz 3 (rss_one (rs_ret (re_join (RE.p re_str) (re_var 3)))))))
/-! ### _law_things -/
abbrev s__law_things : Stmt := topS 75
abbrev N__law_things : List Str := ["_law_script", "_law_many", "_law_cell", "_law_wide", "_law_pushes", "_law_k", "_law_ends", "_law_number_here", "_law_some", "_law_thing", "_law_one", "_law_text", "_law_found", "_law_told", "_law_mode"]
theorem sc__law_things : FnScope N__law_things ["_law_script", "_law_many"] (defScope s__law_things) := ⟨rfl, rfl, rfl, by decide +kernel, rfl, by decide +kernel, by decide +kernel⟩
def tb__law_things (K : PySem.W.Frag) (C_Thing C_Mode C_BadThing C_TooMany : Addr) : DS :=
  (dSq (dSet 2 (dCall 2 [] g__law_cell_at (dCons (dVar 0) (dCons (dC (.int 8)) dNil)))) (dSq (dSet 3 (dOp kMod (dVarP 2) (dC (.int 7)))) (dSq (dOwn 4 (dLstN dNil)) (dSq (dFor (dRng1 (dVarP 3)) (gNm 5) (dSq (dSet 6 (dLc (dSeq (dCall 2 [] g__law_stream (dCons (dOp kAdd (dOp kDiv (dVarP 2) (dC (.int 7))) (dVarP 5)) (dCons (dC (.int 2)) dNil)))) (gNm 7) dYes (dCall 1 [] g__law_number (dCons (dVar 7) dNil)) [7])) (dApp 4 (dTup (dCons (dCB kMinL (dCons (dVarP 6) dNil)) (dCons (dCB kMaxL (dCons (dVarP 6) dNil)) dNil)))))) (dSq (dSet 8 (dLc (dRng1 (dOp kAdd (dC (.int 1)) (dOp kMod (dOp kDiv (dVarP 2) (dC (.int 7))) (dC (.int 4))))) (gNm 5) dYes (dCall 3 [] g__law_parts (dCons (dOp kAdd (dCall 2 [] g__law_cell_at (dCons (dVar 0) (dCons (dOp kAdd (dC (.int 9)) (dVarP 5)) dNil))) (dOp kMul (dC (.int 7919)) (dVarP 5))) (dCons (dVar 1) (dCons (dVar 3) dNil)))) [5])) (dSq (dSet 9 (dMake 4 C_Thing [] (g_Thing_init C_Mode C_BadThing C_TooMany) (dCons (dVar 1) (dCons (dCB kList (dCons (dVarP 4) dNil)) (dCons (dFz (dLcN (dSeq (dVar 8)) (gNm 10) dYes (dMake 7 C_Mode [] g_Mode_init (dCons (dOp kIx (dVarP 10) (dC (.int 0))) (dCons (dOp kIx (dVarP 10) (dC (.int 1))) (dCons (dOp kIx (dVarP 10) (dC (.int 2))) (dCons (dOp kIx (dVarP 10) (dC (.int 3))) (dCons (dOp kIx (dVarP 10) (dC (.int 4))) (dCons (dOp kIx (dVarP 10) (dC (.int 5))) dNil))))))) [10])) dNil))))) (dFrz 4 (dSq (dSet 11 (dCall 3 [] g__law_thing_text (dCons (dVar 1) (dCons (dVar 4) (dCons (dVar 8) dNil))))) (dSq (dIf (dTest (dOp kNe (dCall 1 [] (g_show_thing C_Mode C_Thing) (dCons (dVar 9) dNil)) (dVarP 11))) (dRet (dC (.bl false))) dNext) (dSq (dSet 12 (dCall 1 [] (g_read_thing C_Mode C_Thing) (dCons (dVar 11) dNil))) (dSq (dIf (dOr (dNot (dTest (dCB (kIsi K) (dCons (dVarP 12) (dCons (dC (.cls C_Thing)) dNil))))) (dOr (dTest (dOp kNe (dFld K "many" (dVar 12)) (dVarP 1))) (dOr (dTest (dOp kNe (dMeth C_Thing "pushes" 1 (g_Thing_pushes C_Thing) (dVar 12) dNil) (dVarP 4))) (dTest (dOp kNe (dCall 1 [] (g_show_thing C_Mode C_Thing) (dCons (dVar 12) dNil)) (dVarP 11)))))) (dRet (dC (.bl false))) dNext) (dSq (dSet 13 (dLc (dSeq (dMeth C_Thing "modes" 1 (g_Thing_modes C_Thing) (dVar 12) dNil)) (gNm 14) dYes (dLst (dCons (dFld K "rows" (dVar 14)) (dCons (dFld K "nexts" (dVar 14)) (dCons (dFld K "steer" (dVar 14)) (dCons (dFld K "push" (dVar 14)) (dCons (dFld K "add" (dVar 14)) (dCons (dFld K "divisor" (dVar 14)) dNil))))))) [14])) (dRet (dOp kEq (dVarP 13) (dVarP 8)))))))))))))))
theorem der__law_things (T : Txt K mg a_Settles_init a_Comes_init a_is_whole a_own a_own_list a_are_wholes a_is_row a_is_room a_is_table a_Mode_init a_is_mode a_is_push a_Thing_init a_Thing_pushes a_Thing_modes a_Straight_init a_Stopped_init a_Parted_init a_words_in a_read_number a_read_numbers a_show_numbers a_show_room a_read_room a_show_rule a_rule_at a_read_rule a_show_claim a_claim_of a_read_claim a_rows_of_mode a_show_thing a_headed a_read_mode a_read_thing a__law_cell_at a__law_stream a__law_number a__law_words a__law_leaf a__law_tree a__law_rule a__law_rule_text a__law_same_rule a__law_rows a__law_room_text a__law_claims a__law_parts a__law_thing_text a__law_things a_law C_BadThing C_TooMany C_Claim C_Settles C_Comes C_Mode C_Thing C_Rule C_Straight C_Stopped C_Parted) (D_show_thing : FD P w K mg base 3 a_show_thing 1 [] (g_show_thing C_Mode C_Thing)) (D_read_thing : FD P w K mg base 7 a_read_thing 1 [] (g_read_thing C_Mode C_Thing)) (D__law_cell_at : FD P w K mg base 1 a__law_cell_at 2 [] g__law_cell_at) (D__law_stream : FD P w K mg base 1 a__law_stream 2 [] g__law_stream) (D__law_number : FD P w K mg base 1 a__law_number 1 [] g__law_number) (D__law_parts : FD P w K mg base 2 a__law_parts 3 [] g__law_parts) (D__law_thing_text : FD P w K mg base 2 a__law_thing_text 3 [] g__law_thing_text) (M_Thing_modes : FN P w K mg base 1 a_Thing_modes 1 (g_Thing_modes C_Thing)) (M_Thing_pushes : FN P w K mg base 1 a_Thing_pushes 1 (g_Thing_pushes C_Thing)) (I_Mode : FI P w K mg base 3 C_Mode 7 [] g_Mode_init) (I_Thing : FI P w K mg base 5 C_Thing 4 [] (g_Thing_init C_Mode C_BadThing C_TooMany))
    {f : Addr} {cdv : Value} {A : Around} {outer : List Env} {s : Shared} {H : Hp} {E : XK} (hr : Room 7 (A.deeper (envOfC "_law_things" (defScope s__law_things) s.heap.objs.size f cdv))) :
    RSs (cxOf (L2.CX P w) P w K mg base N__law_things "_law_things" (defScope s__law_things) f cdv A outer s H E) (WF E) (defBody s__law_things) (tb__law_things K C_Thing C_Mode C_BadThing C_TooMany) :=
  (rss_cons (rs_set 2 sc__law_things.nd (re_call D__law_cell_at (hr.mono (by decide)) T.f__law_cell_at (takes_of rfl rfl rfl rfl) (ra_cons (re_var 0) (ra_cons re_int ra_nil)))) (rss_cons (rs_set 3 sc__law_things.nd (re_op opd_mod (rp_var 2) (RE.p re_int))) (rss_cons (rs_own 4 sc__law_things.nd (rn_lst ra_nil)) (rss_cons (rs_for (passes_of rfl) (ri_range1 (rp_var 3) T.b_range) (rg_name 5 sc__law_things.nd) (rss_cons (rs_setLc 6 sc__law_things.nd (ri_seq (re_call D__law_stream (hr.mono (by decide)) T.f__law_stream (takes_of rfl rfl rfl rfl) (ra_cons (re_op opd_add (RE.p (re_op opd_div (rp_var 2) (RE.p re_int))) (rp_var 5)) (ra_cons re_int ra_nil)))) (blkOk_by (own := [("_law_number_here", 7)]) (N := N__law_things) (sc := (defScope s__law_things)) (by decide +kernel)) (fun _ _ _ _ _ => (rg_name 7 sc__law_things.nd)) (fun _ _ _ _ _ => rts_nil) (fun _ _ _ _ _ => (re_call D__law_number (hr.mono (by decide)) T.f__law_number takes0 (ra_cons (re_var 7) ra_nil))) (sw_true rfl rfl rfl (by decide +kernel))) (rss_one (rs_app 4 (re_tup (ra_cons (re_callB (cd_minL rfl) T.b_min (rpa_cons (rp_var 6) rpa_nil)) (ra_cons (re_callB (cd_maxL rfl) T.b_max (rpa_cons (rp_var 6) rpa_nil)) ra_nil))))))) (rss_cons (rs_setLc 8 sc__law_things.nd (ri_range1 (RE.p (re_op opd_add (RE.p re_int) (RE.p (re_op opd_mod (RE.p (re_op opd_div (rp_var 2) (RE.p re_int))) (RE.p re_int))))) T.b_range) (blkOk_by (own := [("_law_k", 5)]) (N := N__law_things) (sc := (defScope s__law_things)) (by decide +kernel)) (fun _ _ _ _ _ => (rg_name 5 sc__law_things.nd)) (fun _ _ _ _ _ => rts_nil) (fun _ _ _ _ _ => (re_call D__law_parts (hr.mono (by decide)) T.f__law_parts takes0 (ra_cons (re_op opd_add (RE.p (re_call D__law_cell_at (hr.mono (by decide)) T.f__law_cell_at takes0 (ra_cons (re_var 0) (ra_cons (re_op opd_add (RE.p re_int) (rp_var 5)) ra_nil)))) (RE.p (re_op opd_mul (RE.p re_int) (rp_var 5)))) (ra_cons (re_var 1) (ra_cons (re_var 3) ra_nil))))) (sw_true rfl rfl rfl (by decide +kernel))) (rss_cons (rs_set 9 sc__law_things.nd (re_make I_Thing (hr.mono (by decide)) T.c_Thing (takes_of rfl rfl rfl rfl) (ra_cons (re_var 1) (ra_cons (re_callTy cd_list T.b_list (rpa_cons (rp_var 4) rpa_nil)) (ra_cons (by exact (RN.e (rn_lc sc__law_things.nd (ri_seq (re_var 8)) (blkOk_by (own := [("_law_one", 10)]) (N := N__law_things) (sc := (defScope s__law_things)) (by decide +kernel)) (fun _ _ _ _ _ => (rg_name 10 sc__law_things.nd)) (fun _ _ _ _ _ => rts_nil) (fun _ _ _ _ _ => (re_make I_Mode (hr.mono (by decide)) T.c_Mode takes0 (ra_cons (re_ix ixd_seq (rp_var 10) (RE.p re_int)) (ra_cons (re_ix ixd_seq (rp_var 10) (RE.p re_int)) (ra_cons (re_ix ixd_seq (rp_var 10) (RE.p re_int)) (ra_cons (re_ix ixd_seq (rp_var 10) (RE.p re_int)) (ra_cons (re_ix ixd_seq (rp_var 10) (RE.p re_int)) (ra_cons (re_ix ixd_seq (rp_var 10) (RE.p re_int)) ra_nil))))))))))) ra_nil))))) (rss_frz 4 (rss_cons (rs_set 11 sc__law_things.nd (re_call D__law_thing_text (hr.mono (by decide)) T.f__law_thing_text (takes_of rfl rfl rfl rfl) (ra_cons (re_var 1) (ra_cons (re_var 4) (ra_cons (re_var 8) ra_nil))))) (rss_cons (rs_if (rt_cmp (opd_ne hr.units) (RE.p (re_call D_show_thing (hr.mono (by decide)) T.f_show_thing (takes_of rfl rfl rfl rfl) (ra_cons (re_var 9) ra_nil))) (rp_var 11)) (rss_one (rs_ret re_bl)) rss_nil) (rss_cons (rs_set 12 sc__law_things.nd (re_call D_read_thing (hr.mono (by decide)) T.f_read_thing (takes_of rfl rfl rfl rfl) (ra_cons (re_var 11) ra_nil))) (rss_cons (rs_if (RW.toT (rw_or (rt_not (rt_val (RE.p (re_callB (cd_isi (K := K)) T.b_isinstance (rpa_cons (rp_var 12) (rpa_cons (RE.p (re_glob T.c_Thing rfl)) rpa_nil)))))) (rw_or (rt_cmp (opd_ne hr.units) (RE.p (re_fld (K := K) (re_var 12))) (rp_var 1)) (rw_or (rt_cmp (opd_ne hr.units) (RE.p (re_meth0 (re_var 12) T.l_Thing T.m_Thing_pushes M_Thing_pushes (hr.mono (by decide)) (takes_of rfl rfl rfl rfl))) (rp_var 4)) (rw_or1 (rt_cmp (opd_ne hr.units) (RE.p (re_call D_show_thing (hr.mono (by decide)) T.f_show_thing (takes_of rfl rfl rfl rfl) (ra_cons (re_var 12) ra_nil))) (rp_var 11))))))) (rss_one (rs_ret re_bl)) rss_nil) (rss_cons (rs_setLc 13 sc__law_things.nd (ri_seq (re_meth0 (re_var 12) T.l_Thing T.m_Thing_modes M_Thing_modes (hr.mono (by decide)) (takes_of rfl rfl rfl rfl))) (blkOk_by (own := [("_law_mode", 14)]) (N := N__law_things) (sc := (defScope s__law_things)) (by decide +kernel)) (fun _ _ _ _ _ => (rg_name 14 sc__law_things.nd)) (fun _ _ _ _ _ => rts_nil) (fun _ _ _ _ _ => (re_lst (ra_cons (re_fld (K := K) (re_var 14)) (ra_cons (re_fld (K := K) (re_var 14)) (ra_cons (re_fld (K := K) (re_var 14)) (ra_cons (re_fld (K := K) (re_var 14)) (ra_cons (re_fld (K := K) (re_var 14)) (ra_cons (re_fld (K := K) (re_var 14)) ra_nil)))))))) (sw_true rfl rfl rfl (by decide +kernel))) (rss_one (rs_ret (re_cmp (opd_eq hr.units) (rp_var 13) (rp_var 8))))))))))))))))
/-! ### law -/
abbrev s_law : Stmt := topS 76
abbrev N_law : List Str := ["_law_script", "_law_many", "_law_tree_here", "_law_text"]
theorem sc_law : FnScope N_law ["_law_script"] (defScope s_law) := ⟨rfl, rfl, rfl, by decide +kernel, rfl, by decide +kernel, by decide +kernel⟩
def tb_law (C_Straight C_Stopped C_Parted : Addr) : DS :=
  (dSq (dSet 1 (dOp kAdd (dC (.int 1)) (dOp kMod (dCall 2 [] g__law_cell_at (dCons (dVar 0) (dCons (dC (.int 0)) dNil))) (dC (.int 3))))) (dSq (dSet 2 (dCall 2 [] g__law_tree (dCons (dSl (dVarP 0) (dPart (dC (.int 1))) (dPart (dOp kAdd (dC (.int 2)) (dOp kMod (dOp kDiv (dCall 2 [] g__law_cell_at (dCons (dVar 0) (dCons (dC (.int 0)) dNil))) (dC (.int 3))) (dC (.int 6)))))) (dCons (dVar 1) dNil)))) (dSq (dSet 3 (dCall 1 [] (g_textP 10) (dCons (dVar 2) dNil))) (dSq (dIf (dOr (dTest (dOp kNe (dCall 1 [] (g_showRP C_Straight C_Stopped C_Parted 10) (dCons (dCall 1 [] (g_ruleP C_Straight C_Stopped C_Parted 10) (dCons (dVar 2) dNil)) dNil)) (dVarP 3))) (dNot (dTest (dCall 2 [] (g_sameP C_Straight C_Stopped C_Parted 10) (dCons (dCall 2 [] (g_read_rule C_Straight C_Stopped C_Parted) (dCons (dVar 3) (dCons (dVar 1) dNil))) (dCons (dVar 2) dNil)))))) (dRet (dC (.bl false))) dNext) (dRet (dAndV (dCall 2 [] g__law_claims (dCons (dVar 0) (dCons (dVar 1) dNil))) (dCall 2 [] g__law_things (dCons (dVar 0) (dCons (dVar 1) dNil)))))))))
theorem der_law (T : Txt K mg a_Settles_init a_Comes_init a_is_whole a_own a_own_list a_are_wholes a_is_row a_is_room a_is_table a_Mode_init a_is_mode a_is_push a_Thing_init a_Thing_pushes a_Thing_modes a_Straight_init a_Stopped_init a_Parted_init a_words_in a_read_number a_read_numbers a_show_numbers a_show_room a_read_room a_show_rule a_rule_at a_read_rule a_show_claim a_claim_of a_read_claim a_rows_of_mode a_show_thing a_headed a_read_mode a_read_thing a__law_cell_at a__law_stream a__law_number a__law_words a__law_leaf a__law_tree a__law_rule a__law_rule_text a__law_same_rule a__law_rows a__law_room_text a__law_claims a__law_parts a__law_thing_text a__law_things a_law C_BadThing C_TooMany C_Claim C_Settles C_Comes C_Mode C_Thing C_Rule C_Straight C_Stopped C_Parted) (D_show_rule : FD P w K mg base 11 a_show_rule 1 [] (g_showRP C_Straight C_Stopped C_Parted 10)) (D_read_rule : FD P w K mg base 14 a_read_rule 2 [] (g_read_rule C_Straight C_Stopped C_Parted)) (D__law_cell_at : FD P w K mg base 1 a__law_cell_at 2 [] g__law_cell_at) (D__law_tree : FD P w K mg base 3 a__law_tree 2 [] g__law_tree) (D__law_rule : FD P w K mg base 13 a__law_rule 1 [] (g_ruleP C_Straight C_Stopped C_Parted 10)) (D__law_rule_text : FD P w K mg base 11 a__law_rule_text 1 [] (g_textP 10)) (D__law_same_rule : FD P w K mg base 10 a__law_same_rule 2 [] (g_sameP C_Straight C_Stopped C_Parted 10)) (D__law_claims : FD P w K mg base 6 a__law_claims 2 [] g__law_claims) (D__law_things : FD P w K mg base 8 a__law_things 2 [] g__law_things)
    {f : Addr} {cdv : Value} {A : Around} {outer : List Env} {s : Shared} {H : Hp} {E : XK} (hr : Room 14 (A.deeper (envOfC "law" (defScope s_law) s.heap.objs.size f cdv))) :
    RSs (cxOf (L2.CX P w) P w K mg base N_law "law" (defScope s_law) f cdv A outer s H E) (WF E) (defBody s_law) (tb_law C_Straight C_Stopped C_Parted) :=
  (rss_cons (rs_set 1 sc_law.nd (re_op opd_add (RE.p re_int) (RE.p (re_op opd_mod (RE.p (re_call D__law_cell_at (hr.mono (by decide)) T.f__law_cell_at (takes_of rfl rfl rfl rfl) (ra_cons (re_var 0) (ra_cons re_int ra_nil)))) (RE.p re_int))))) (rss_cons (rs_set 2 sc_law.nd (re_call D__law_tree (hr.mono (by decide)) T.f__law_tree (takes_of rfl rfl rfl rfl) (ra_cons (re_slice (rp_var 0) (ro_some (RE.p re_int)) (ro_some (RE.p (re_op opd_add (RE.p re_int) (RE.p (re_op opd_mod (RE.p (re_op opd_div (RE.p (re_call D__law_cell_at (hr.mono (by decide)) T.f__law_cell_at (takes_of rfl rfl rfl rfl) (ra_cons (re_var 0) (ra_cons re_int ra_nil)))) (RE.p re_int))) (RE.p re_int))))))) (ra_cons (re_var 1) ra_nil)))) (rss_cons (rs_set 3 sc_law.nd (re_call D__law_rule_text (hr.mono (by decide)) T.f__law_rule_text (takes_of rfl rfl rfl rfl) (ra_cons (re_var 2) ra_nil))) (rss_cons (rs_if (RW.toT (rw_or (rt_cmp (opd_ne hr.units) (RE.p (re_call D_show_rule (hr.mono (by decide)) T.f_show_rule (takes_of rfl rfl rfl rfl) (ra_cons (re_call D__law_rule (hr.mono (by decide)) T.f__law_rule (takes_of rfl rfl rfl rfl) (ra_cons (re_var 2) ra_nil)) ra_nil))) (rp_var 3)) (rw_or1 (rt_not (rt_val (RE.p (re_call D__law_same_rule (hr.mono (by decide)) T.f__law_same_rule (takes_of rfl rfl rfl rfl) (ra_cons (re_call D_read_rule (hr.mono (by decide)) T.f_read_rule (takes_of rfl rfl rfl rfl) (ra_cons (re_var 3) (ra_cons (re_var 1) ra_nil))) (ra_cons (re_var 2) ra_nil))))))))) (rss_one (rs_ret re_bl)) rss_nil) (rss_one (rs_ret (re_and (RE.p (re_call D__law_claims (hr.mono (by decide)) T.f__law_claims (takes_of rfl rfl rfl rfl) (ra_cons (re_var 0) (ra_cons (re_var 1) ra_nil)))) (re_one (re_call D__law_things (hr.mono (by decide)) T.f__law_things (takes_of rfl rfl rfl rfl) (ra_cons (re_var 0) (ra_cons (re_var 1) ra_nil)))))))))))
end
end K92

namespace K92
open PySem PySem.Spec
open PyProof.Rows L2 Dl
open Lp
open TL
theorem split_sp {ys : List Str} (hne : ys ≠ []) (h : ∀ y ∈ ys, 32 ∉ tl y) : Txt.split (Txt.join (Str.ofString " ") ys) (Str.ofString " ") = ys := split_join sp_tl (by decide +kernel) hne h
theorem rd_read_room {K : PySem.W.Frag} (ds : List D) (Q E : EQ) (_ : ds.length = 2) (h : g_read_room ds Q E) : tb_read_room K (dE Q E) (startD N_read_room ds) := by
  obtain ⟨rs, n, rfl, hn, ⟨hl, hr⟩, q⟩ := h
  unfold tb_read_room dE
  cases rs with
  | nil =>
    walk_at "go"
    exact q
  | cons r rs =>
    have e1 : roomS (r :: rs) ≠ Str.ofString "all" := room_all
    have e2 : (roomS (r :: rs)).length ≤ (r :: rs).length * 622 := room_len fun r h => ⟨by have := (hr r h).1; omega, (hr r h).2⟩
    have e3 : Txt.split (roomS (r :: rs)) (Str.ofString ", ") = (r :: rs).map rowS := split_join cs_tl (by decide +kernel) (fun z => nomatch z) fun y hy => by
      obtain ⟨z, hm, rfl⟩ := List.mem_map.mp hy
      exact fun hc => by rcases row_signs z 44 hc with e | e | e <;> omega
    generalize roomS (r :: rs) = T at e1 e2 e3 ⊢
    generalize r :: rs = L at *
    have fw : few ((Txt.split T (Str.ofString ", ")).map D.str) := by rw [e3]; exact few_of (by rw [List.length_map, List.length_map]; omega)
    walk_at "go"
    rw [decide_eq_false e1]
    walk_at "go"
    rw [e3, List.map_map]
    refine compL_fun (D.str ∘ rowS) tupI L (fun r hm K1 K0 hK => ?_) ?_
    · obtain ⟨rl, rz⟩ := hr r hm
      have f3 : Txt.split (rowS r) (Str.ofString " ") = r.map numS := split_sp (fun z => by rw [List.map_eq_nil_iff.mp z] at rl; cases rl) fun y hy => by
        obtain ⟨z, hm, rfl⟩ := List.mem_map.mp hy
        exact numS_free _ (by decide) (.inl (by decide))
      have f2 := row_len rz
      have fw : few ((Txt.split (rowS r) (Str.ofString " ")).map D.str) := by rw [f3]; exact few_of (by rw [List.length_map, List.length_map]; omega)
      walk_at "go"
      rw [f3]
      refine ⟨r, by rw [rl]; rfl, rz, ?_⟩
      walk_at "go"
      exact hK
    exact q
/-! ### rules' texts -/
theorem sapp (a b c : Str) : a ++ b ++ c = a ++ (b ++ c) := ext_tl (by rw [tl_append, tl_append, tl_append, tl_append, List.append_assoc])
theorem wR_ne (n : Nat) : ∀ r : Ru, wordsR n r ≠ []
  | .st .. => fun z => nomatch z
  | .sp .. => fun z => nomatch z
  | .pa .. => fun z => nomatch z
theorem sapp_len (a b : Str) : (a ++ b).length = a.length + b.length := by rw [len_tl, len_tl, len_tl, tl_append, List.length_append]
theorem ruleS_st (n : Nat) (f : Nat → Int) (a d : Int) : ruleS n (.st f a d) = Str.ofString "straight " ++ rowS (tabI n f ++ [a, d]) := by
  show Txt.join _ (Str.ofString "straight" :: _) = _
  rw [join_cons _ _ (q := (tabI n f ++ [a, d]).map numS) (fun z => nomatch (List.append_eq_nil_iff.mp (List.map_eq_nil_iff.mp z)).2), show Str.ofString "straight " = Str.ofString "straight" ++ Str.ofString " " from by decide +kernel]
  rfl
theorem ruleS_sp (n : Nat) (r : Ru) (lo hi : Int) : ruleS n (.sp r lo hi) = Str.ofString "stopped " ++ rowS [lo, hi] ++ Str.ofString " " ++ ruleS n r := by
  show Txt.join _ ([Str.ofString "stopped"] ++ (([lo, hi].map numS) ++ wordsR n r)) = _
  rw [join_app _ (q := [lo, hi].map numS ++ wordsR n r) (List.cons_ne_nil _ _) (fun z => List.cons_ne_nil _ _ (List.append_eq_nil_iff.mp z).1), join_app _ (p := [lo, hi].map numS) (List.cons_ne_nil _ _) (wR_ne n r), Dl.join_one, show Str.ofString "stopped " = Str.ofString "stopped" ++ Str.ofString " " from by decide +kernel]
  unfold ruleS rowS
  rw [sapp, sapp, sapp, sapp, sapp]
theorem ruleS_pa (n : Nat) (w : Nat → Int) (r o : Ru) : ruleS n (.pa w r o) = Str.ofString "parted " ++ rowS (tabI (n + 1) w) ++ Str.ofString " " ++ ruleS n r ++ Str.ofString " " ++ ruleS n o := by
  have hw : (tabI (n + 1) w).map numS ≠ [] := fun z => by
    have := congrArg List.length z
    rw [List.length_map] at this
    unfold tabI at this
    rw [List.length_map, List.length_range] at this
    cases this
  show Txt.join _ ([Str.ofString "parted"] ++ ((tabI (n + 1) w).map numS ++ (wordsR n r ++ wordsR n o))) = _
  rw [join_app _ (List.cons_ne_nil _ _) (fun z => hw (List.append_eq_nil_iff.mp z).1), join_app _ hw (fun z => wR_ne n r (List.append_eq_nil_iff.mp z).1), join_app _ (wR_ne n r) (wR_ne n o), Dl.join_one, show Str.ofString "parted " = Str.ofString "parted" ++ Str.ofString " " from by decide +kernel]
  unfold ruleS rowS
  simp only [sapp]
theorem tabI_len (n : Nat) (f : Nat → Int) : (tabI n f).length = n := by unfold tabI; rw [List.length_map, List.length_range]
theorem tabI_ok {n : Nat} {f : Nat → Int} (h : ∀ j, okN (f j)) : ∀ z ∈ tabI n f, okN z := fun z hz => by
  obtain ⟨j, _, rfl⟩ := List.mem_map.mp hz
  exact h j
theorem st_ok {n : Nat} {f : Nat → Int} {a d : Int} (h : okR (.st f a d)) : ∀ z ∈ tabI n f ++ [a, d], okN z := fun z hz => by
  rcases List.mem_append.mp hz with h1 | h1
  · exact tabI_ok h.1 z h1
  rcases List.mem_cons.mp h1 with rfl | h1
  · exact h.2.1
  rw [List.mem_singleton.mp h1]
  exact h.2.2
theorem ruleS_len {n : Nat} (n3 : n ≤ 3) : ∀ {r : Ru}, okR r → (ruleS n r).length ≤ nd r * 400
  | .st f a d, h => by
    rw [ruleS_st, sapp_len]
    have := row_len (st_ok (n := n) h)
    rw [List.length_append, tabI_len, List.length_cons, List.length_singleton] at this
    rw [show (Str.ofString "straight ").length = 9 from by decide +kernel]
    show _ ≤ 1 * 400
    omega
  | .sp r lo hi, h => by
    rw [ruleS_sp, sapp_len, sapp_len, sapp_len]
    have ih := ruleS_len n3 h.1
    have := row_len (zs := [lo, hi]) (fun z hz => by
      rcases List.mem_cons.mp hz with rfl | h1
      · exact h.2.1
      rw [List.mem_singleton.mp h1]; exact h.2.2)
    rw [List.length_cons, List.length_singleton] at this
    rw [show (Str.ofString "stopped ").length = 8 from by decide +kernel, sp1]
    show _ ≤ (nd r + 1) * 400
    omega
  | .pa w r o, h => by
    rw [ruleS_pa, sapp_len, sapp_len, sapp_len, sapp_len, sapp_len]
    have i1 := ruleS_len n3 h.2.1
    have i2 := ruleS_len n3 h.2.2
    have := row_len (tabI_ok (n := n + 1) h.1)
    rw [tabI_len] at this
    rw [show (Str.ofString "parted ").length = 7 from by decide +kernel, sp1]
    show _ ≤ (nd r + nd o + 1) * 400
    omega
theorem nums_free {zs : List Int} : ∀ y ∈ zs.map numS, 32 ∉ tl y := fun y hy => by
  obtain ⟨z, hm, rfl⟩ := List.mem_map.mp hy
  exact numS_free _ (by decide) (.inl (by decide))
theorem wR_free (n : Nat) : ∀ (r : Ru), ∀ y ∈ wordsR n r, 32 ∉ tl y
  | .st f a d, y, hy => by
    rcases List.mem_cons.mp hy with rfl | hy
    · decide +kernel
    · exact nums_free y hy
  | .sp r lo hi, y, hy => by
    rcases List.mem_cons.mp hy with rfl | hy
    · decide +kernel
    rcases List.mem_cons.mp hy with rfl | hy
    · exact numS_free _ (by decide) (.inl (by decide))
    rcases List.mem_cons.mp hy with rfl | hy
    · exact numS_free _ (by decide) (.inl (by decide))
    exact wR_free n r y hy
  | .pa w r o, y, hy => by
    rcases List.mem_cons.mp hy with rfl | hy
    · decide +kernel
    rcases List.mem_append.mp hy with hy | hy
    · exact nums_free y hy
    rcases List.mem_append.mp hy with hy | hy
    · exact wR_free n r y hy
    exact wR_free n o y hy
theorem rule_split (n : Nat) (r : Ru) : Txt.split (ruleS n r) (Str.ofString " ") = wordsR n r := split_sp (wR_ne n r) (wR_free n r)
end K92

namespace K92
open PySem PySem.Spec
open PyProof.Rows L2 Dl
open Lp
theorem rd_show_rule {K : PySem.W.Frag} {CS CP CA CR : Addr} (hR : RuK K CS CP CA CR) (hS : RsK K CS CP CA) (j : Nat) (ds : List D) (Q E : EQ) (_ : ds.length = 1) (h : g_showRP CS CP CA (j + 1) ds Q E) : tb_show_rule K CS CP (g_showRP CS CP CA j) (dE Q E) (startD N_show_rule ds) := by
  obtain ⟨n, r, rfl, n3, ok, hn, hj, q⟩ := h
  have hl := ruleS_len n3 ok
  unfold tb_show_rule dE
  match r, ok, hn, hj, q, hl with
  | .st f a d, ok, hn, hj, q, hl =>
    have k0 := hR.f_Straight_numbers
    have k1 := hR.f_Straight_add
    have k2 := hR.f_Straight_divisor
    have i0 := hR.i_Straight
    rw [ruleS_st] at q hl
    unfold ruD Dl.stI
    walk_at "go"
    rw [hS.k_Straight_Straight]
    walk_at "go"
    refine ⟨tabI n f ++ [a, d], _, rfl, .inr ?_, st_ok ok, ?_, ?_⟩
    · rw [List.map_append, tabI_ints]; rfl
    · rw [List.length_append, tabI_len]; show n + 2 ≤ 20; omega
    rw [sapp_len] at hl
    walk_at "go"
    exact q
  | .sp r lo hi, ok, hn, hj, q, hl =>
    have hj : r.dep + 1 ≤ j := hj
    have hn : nd r + 1 ≤ 20 := hn
    obtain ⟨j, rfl⟩ : ∃ j', j = j' + 1 := ⟨j - 1, by omega⟩
    have k0 := hR.f_Stopped_rule
    have k1 := hR.f_Stopped_low
    have k2 := hR.f_Stopped_high
    have i0 := hR.i_Stopped
    rw [ruleS_sp] at q hl
    have hl2 : (Str.ofString "stopped " ++ rowS [lo, hi] ++ Str.ofString " " ++ ruleS n r).length ≤ (nd r + 1) * 400 := hl
    have b1 := sapp_len (Str.ofString "stopped ") (rowS [lo, hi])
    have b2 := sapp_len (Str.ofString "stopped " ++ rowS [lo, hi]) (Str.ofString " ")
    have b3 := sapp_len (Str.ofString "stopped " ++ rowS [lo, hi] ++ Str.ofString " ") (ruleS n r)
    unfold ruD
    walk_at "go"
    rw [hS.k_Stopped_Straight]
    walk_at "go"
    rw [hS.k_Stopped_Stopped]
    walk_at "go"
    refine ⟨[lo, hi], _, rfl, .inr rfl, fun z hz => ?_, Nat.le_of_ble_eq_true rfl, ?_⟩
    · rcases List.mem_cons.mp hz with rfl | h1
      · exact ok.2.1
      rw [List.mem_singleton.mp h1]; exact ok.2.2
    walk_at "go"
    refine ⟨n, r, rfl, n3, ok.1, by omega, by omega, ?_⟩
    walk_at "go"
    exact q
  | .pa w r o, ok, hn, hj, q, hl =>
    have hj : max r.dep o.dep + 1 ≤ j := hj
    have hn : nd r + nd o + 1 ≤ 20 := hn
    obtain ⟨j, rfl⟩ : ∃ j', j = j' + 1 := ⟨j - 1, by omega⟩
    have k0 := hR.f_Parted_rule
    have k1 := hR.f_Parted_row
    have k2 := hR.f_Parted_other
    have i0 := hR.i_Parted
    rw [ruleS_pa] at q hl
    have hl2 : (Str.ofString "parted " ++ rowS (tabI (n + 1) w) ++ Str.ofString " " ++ ruleS n r ++ Str.ofString " " ++ ruleS n o).length ≤ (nd r + nd o + 1) * 400 := hl
    have b1 := sapp_len (Str.ofString "parted ") (rowS (tabI (n + 1) w))
    have b2 := sapp_len (Str.ofString "parted " ++ rowS (tabI (n + 1) w)) (Str.ofString " ")
    have b3 := sapp_len (Str.ofString "parted " ++ rowS (tabI (n + 1) w) ++ Str.ofString " ") (ruleS n r)
    have b4 := sapp_len (Str.ofString "parted " ++ rowS (tabI (n + 1) w) ++ Str.ofString " " ++ ruleS n r) (Str.ofString " ")
    have b5 := sapp_len (Str.ofString "parted " ++ rowS (tabI (n + 1) w) ++ Str.ofString " " ++ ruleS n r ++ Str.ofString " ") (ruleS n o)
    unfold ruD
    walk_at "go"
    rw [hS.k_Parted_Straight]
    walk_at "go"
    rw [hS.k_Parted_Stopped]
    walk_at "go"
    refine ⟨tabI (n + 1) w, _, rfl, .inl ?_, tabI_ok ok.1, ?_, ?_⟩
    · rw [tabI_ints]; rfl
    · rw [tabI_len]; omega
    walk_at "go"
    refine ⟨n, r, rfl, n3, ok.2.1, by omega, by omega, ?_⟩
    walk_at "go"
    refine ⟨n, o, rfl, n3, ok.2.2, by omega, by omega, ?_⟩
    walk_at "go"
    exact q
theorem cut_mid {α : Type} (w : α) (A B : List α) {k : Int} (h : k = ((A.length + 1 : Nat) : Int)) : cut (w :: (A ++ B)) (some 1) (some k) = A := by
  subst h
  unfold cut
  rw [show (1 : Int) = ((1 : Nat) : Int) from rfl, HT.sIx_nat, HT.sIx_nat, List.length_cons, List.length_append]
  rw [show min 1 (A.length + B.length + 1) = 1 by omega, show min (A.length + 1) (A.length + B.length + 1) = A.length + 1 by omega]
  show (A ++ B).take (A.length + 1 - 1) = A
  rw [show A.length + 1 - 1 = A.length by omega, List.take_left]
theorem cut_end {α : Type} (w : α) (A B : List α) {k : Int} (h : k = ((A.length + 1 : Nat) : Int)) : cut (w :: (A ++ B)) (some k) none = B := by
  subst h
  unfold cut
  rw [HT.sIx_nat, HT.sIx_none, List.length_cons, List.length_append]
  rw [show min (A.length + 1) (A.length + B.length + 1) = A.length + 1 by omega]
  show ((A ++ B).drop A.length).take _ = B
  rw [List.drop_left, List.take_of_length_le (by omega)]
theorem cut_m2 {α : Type} (A : List α) (x y : α) : cut (A ++ [x, y]) none (some (-2)) = A := by
  unfold cut
  rw [HT.sIx_none, List.length_append, show [x, y].length = 2 from rfl]
  have e : HT.sIx (A.length + 2) (A.length + 2) (some (-2)) = A.length := by
    show (if (-2 : Int) < 0 then ((-2 : Int) + ((A.length + 2 : Nat) : Int)).toNat else min (-2 : Int).toNat (A.length + 2)) = _
    rw [if_pos (by decide)]
    omega
  rw [e, Nat.sub_zero, List.drop_zero, List.take_left]
theorem atI_m2 {α : Type} (A : List α) (x y : α) : atI (A ++ [x, y]) (-2) = some x := by
  unfold atI ixN
  rw [List.length_append, if_neg (by decide), if_pos (by show -((A.length + 2 : Nat) : Int) ≤ -2; omega)]
  show (A ++ [x, y])[((-2 : Int) + ((A.length + 2 : Nat) : Int)).toNat]? = _
  rw [show ((-2 : Int) + ((A.length + 2 : Nat) : Int)).toNat = A.length by omega, List.getElem?_append_right (Nat.le_refl _), Nat.sub_self]
  rfl
theorem atI_e1 {α : Type} (xs : List α) (x : α) : atI (xs ++ [x]) (-1) = some x := by
  unfold atI ixN
  rw [List.length_append, if_neg (by decide), if_pos (by rw [List.length_singleton]; omega)]
  show (xs ++ [x])[((-1 : Int) + ((xs.length + 1 : Nat) : Int)).toNat]? = _
  rw [show ((-1 : Int) + ((xs.length + 1 : Nat) : Int)).toNat = xs.length by omega, List.getElem?_append_right (Nat.le_refl _), Nat.sub_self]
  rfl
theorem rd_rule_at {CS CP CA : Addr} (j : Nat) (ds : List D) (Q E : EQ) (_ : ds.length = 2) (h : g_atP CS CP CA (j + 1) ds Q E) : tb_rule_at CS CP CA (g_atP CS CP CA j) (dE Q E) (startD N_rule_at ds) := by
  obtain ⟨n, r, rest, rfl, n3, ok, hj, q⟩ := h
  unfold tb_rule_at dE
  match r, ok, hj, q with
  | .st f a d, ok, hj, q =>
    obtain ⟨zs, hz⟩ : ∃ zs, zs = tabI n f ++ [a, d] := ⟨_, rfl⟩
    have zl : zs.length = n + 2 := by rw [hz, List.length_append, tabI_len]; rfl
    have zo : ∀ z ∈ zs, okN z := by rw [hz]; exact st_ok ok
    have e : (wordsR n (.st f a d) ++ rest).map D.str = D.str (Str.ofString "straight") :: ((zs.map numS).map D.str ++ rest.map D.str) := by
      show List.map D.str (Str.ofString "straight" :: (tabI n f ++ [a, d]).map numS ++ rest) = _
      rw [← hz, List.cons_append, List.map_cons, List.map_append]
    rw [e]
    obtain ⟨As, hA⟩ : ∃ As, As = (zs.map numS).map D.str := ⟨_, rfl⟩
    have al : As.length = n + 2 := by rw [hA, List.length_map, List.length_map, zl]
    rw [← hA]
    walk_at "go"
    rw [atI_z]
    walk_at "go"
    rw [cut_mid _ As _ (by rw [al]; omega)]
    refine ⟨zs, by rw [hA, zl]; rfl, zo, ?_⟩
    have ez : zs.map D.int = tabD n f ++ [D.int a, D.int d] := by rw [hz, List.map_append, tabI_ints]; rfl
    rw [ez]
    walk_at "go"
    rw [atI_m2]
    walk_at "go"
    rw [show tabD n f ++ [D.int a, D.int d] = (tabD n f ++ [D.int a]) ++ [D.int d] from by rw [List.append_assoc]; rfl, atI_e1]
    walk_at "go"
    rw [show (tabD n f ++ [D.int a]) ++ [D.int d] = tabD n f ++ [D.int a, D.int d] from by rw [List.append_assoc]; rfl, cut_m2]
    refine ⟨_, _, _, rfl, kn_lst _, ?_⟩
    walk_at "go"
    rw [cut_end _ As _ (by rw [al]; omega)]
    exact q
  | .sp r lo hi, ok, hj, q =>
    have hj : r.dep + 1 ≤ j := hj
    obtain ⟨j, rfl⟩ : ∃ j', j = j' + 1 := ⟨j - 1, by omega⟩
    have e : (wordsR n (.sp r lo hi) ++ rest).map D.str = D.str (Str.ofString "stopped") :: ([D.str (numS lo), D.str (numS hi)] ++ (wordsR n r ++ rest).map D.str) := rfl
    rw [e]
    obtain ⟨As, hA⟩ : ∃ As, As = [D.str (numS lo), D.str (numS hi)] := ⟨_, rfl⟩
    have al : As.length = 2 := by rw [hA]; rfl
    rw [← hA]
    walk_at "go"
    rw [atI_z]
    walk_at "go"
    rw [atI_z]
    walk_at "go"
    rw [cut_mid _ As _ (by rw [al]; rfl)]
    refine ⟨[lo, hi], by rw [hA]; rfl, fun z hz => ?_, ?_⟩
    · rcases List.mem_cons.mp hz with rfl | h1
      · exact ok.2.1
      rw [List.mem_singleton.mp h1]; exact ok.2.2
    walk_at "go"
    rw [cut_end _ As _ (by rw [al]; rfl)]
    refine ⟨n, r, rest, rfl, n3, ok.1, by omega, ?_⟩
    walk_at "go"
    refine ⟨_, _, _, rfl, ?_⟩
    walk_at "go"
    exact q
  | .pa w r o, ok, hj, q =>
    have hj : max r.dep o.dep + 1 ≤ j := hj
    obtain ⟨j, rfl⟩ : ∃ j', j = j' + 1 := ⟨j - 1, by omega⟩
    obtain ⟨zs, hz⟩ : ∃ zs, zs = tabI (n + 1) w := ⟨_, rfl⟩
    have zl : zs.length = n + 1 := by rw [hz, tabI_len]
    have e : (wordsR n (.pa w r o) ++ rest).map D.str = D.str (Str.ofString "parted") :: ((zs.map numS).map D.str ++ (wordsR n r ++ (wordsR n o ++ rest)).map D.str) := by
      show List.map D.str (Str.ofString "parted" :: ((tabI (n + 1) w).map numS ++ (wordsR n r ++ wordsR n o)) ++ rest) = _
      rw [← hz, List.cons_append, List.map_cons, List.append_assoc, List.append_assoc, List.map_append]
    rw [e]
    obtain ⟨As, hA⟩ : ∃ As, As = (zs.map numS).map D.str := ⟨_, rfl⟩
    have al : As.length = n + 1 := by rw [hA, List.length_map, List.length_map, zl]
    rw [← hA]
    walk_at "go"
    rw [atI_z]
    walk_at "go"
    rw [atI_z]
    walk_at "go"
    rw [atI_z]
    walk_at "go"
    rw [cut_mid _ As _ (by rw [al]; omega)]
    refine ⟨zs, by rw [hA, zl]; rfl, by rw [hz]; exact tabI_ok ok.1, ?_⟩
    walk_at "go"
    rw [cut_end _ As _ (by rw [al]; omega)]
    refine ⟨n, r, wordsR n o ++ rest, rfl, n3, ok.2.1, by omega, ?_⟩
    walk_at "go"
    refine ⟨n, o, rest, rfl, n3, ok.2.2, by omega, ?_⟩
    walk_at "go"
    refine ⟨_, _, _, rfl, ?_⟩
    walk_at "go"
    rw [hz, tabI_ints]
    exact q
theorem rd_read_rule {CS CP CA : Addr} (ds : List D) (Q E : EQ) (_ : ds.length = 2) (h : g_read_rule CS CP CA ds Q E) : tb_read_rule CS CP CA (dE Q E) (startD N_read_rule ds) := by
  obtain ⟨n, r, rfl, n3, ok, hn, hj, q⟩ := h
  have hl := ruleS_len n3 ok
  unfold tb_read_rule dE
  walk_at "go"
  refine ⟨_, rfl, by omega, ?_⟩
  walk_at "go"
  rw [rule_split]
  refine ⟨n, r, [], by rw [List.append_nil], n3, ok, by omega, ?_⟩
  walk_at "go"
  refine ⟨plain_of rfl, plain_of rfl, ?_⟩
  rw [eqv_self 64 _ (show D.okk 64 (D.lst []) = true from rfl)]
  walk_at "go"
  exact q
end K92

namespace K92
open PySem PySem.Spec
open PyProof.Rows L2 Dl
open Lp
open TL
theorem rd_Settles_init {K : PySem.W.Frag} {CS CC CL : Addr} (hK : ScK K CS CC CL) (x : Addr) (ds : List D) (Q : List (Str × D) → Prop) (E : EQ) (_ : ds.length + 1 = 4) (h : g_Settles_init ds Q E) : tb_Settles_init K (dEI (CS, x) Q E) (startI (CS, x) N_Settles_init ds) := by
  obtain ⟨xs, ys, t, rfl, q⟩ := h
  have k1 := hK.f_Settles_start
  have k2 := hK.f_Settles_rows
  have k3 := hK.f_Settles_turn
  unfold tb_Settles_init dEI startI
  walk_at "go"
  refine ⟨Nat.le_of_ble_eq_true rfl, ?_⟩
  walk_at "go"
  refine ⟨Nat.le_of_ble_eq_true rfl, ?_⟩
  walk_at "go"
  exact q
theorem rd_Comes_init {K : PySem.W.Frag} {CS CC CL : Addr} (hK : ScK K CS CC CL) (x : Addr) (ds : List D) (Q : List (Str × D) → Prop) (E : EQ) (_ : ds.length + 1 = 4) (h : g_Comes_init ds Q E) : tb_Comes_init K (dEI (CC, x) Q E) (startI (CC, x) N_Comes_init ds) := by
  obtain ⟨xs, ys, t, rfl, q⟩ := h
  have k1 := hK.f_Comes_start
  have k2 := hK.f_Comes_goal
  have k3 := hK.f_Comes_turns
  unfold tb_Comes_init dEI startI
  walk_at "go"
  refine ⟨Nat.le_of_ble_eq_true rfl, ?_⟩
  walk_at "go"
  refine ⟨Nat.le_of_ble_eq_true rfl, ?_⟩
  walk_at "go"
  exact q
theorem roomS_len {n : Nat} (n3 : n ≤ 3) {rs : List (List Int)} (h : okRw n rs) : (roomS rs).length ≤ 3110 := by
  cases rs with
  | nil => exact Nat.le_of_ble_eq_true rfl
  | cons r rs =>
    have a := room_len (rs := r :: rs) fun x hx => ⟨by have := (h.2 x hx).1; omega, (h.2 x hx).2⟩
    have b := h.1
    show (Txt.join (Str.ofString ", ") ((r :: rs).map rowS)).length ≤ _
    omega
theorem roomS_free {rs : List (List Int)} {s : Nat} (h1 : s ≠ 45) (h2 : s ≠ 44) (h3 : s ≠ 32) (h4 : s ≠ 97) (h5 : s ≠ 108) (h6 : s < 48 ∨ 57 < s) : s ∉ tl (roomS rs) := by
  cases rs with
  | nil =>
    intro hs
    have hs : s ∈ tl (Str.ofString "all") := hs
    rw [show tl (Str.ofString "all") = [97, 108, 108] from by decide +kernel] at hs
    simp only [List.mem_cons, List.not_mem_nil, or_false] at hs
    omega
  | cons r rs =>
    intro hs
    have := join_signs (y := Str.ofString ", ") (P := fun c => c ≠ s) (fun c hc => by
      rw [cs_tl] at hc
      rcases List.mem_cons.mp hc with rfl | hc
      · exact fun z => h2 z.symm
      · rw [List.mem_singleton.mp hc]; exact fun z => h3 z.symm) (ys := (r :: rs).map rowS) (fun y hy c hc => by
      obtain ⟨z, hm, rfl⟩ := List.mem_map.mp hy
      rcases row_signs z c hc with e | e | e <;> omega) s hs
    exact this rfl
theorem clm_split (k : Bool) (t : Int) (r s : List (List Int)) : Txt.split (clmS (wdS k) t r s) (Str.ofString " | ") = [wdS k ++ Str.ofString " " ++ numS t, roomS r, roomS s] := by
  have rf : ∀ rs : List (List Int), 124 ∉ tl (roomS rs) := fun rs => roomS_free (by decide) (by decide) (by decide) (by decide) (by decide) (.inr (by decide))
  refine split_join2 (s := 32) (t := 124) (S := [32]) (by decide +kernel) (by decide) (by decide +kernel) (List.cons_ne_nil _ _) fun p hp => ?_
  rcases List.mem_cons.mp hp with rfl | hp
  · rw [tl_append, tl_append]
    intro hc
    rcases List.mem_append.mp hc with hc | hc
    · rcases List.mem_append.mp hc with hc | hc
      · cases k <;> revert hc <;> decide +kernel
      · revert hc; decide +kernel
    · exact numS_free t (by decide) (.inr (by decide)) hc
  rcases List.mem_cons.mp hp with rfl | hp
  · exact rf _
  rw [List.mem_singleton.mp hp]
  exact rf _
theorem rd_show_claim {K : PySem.W.Frag} {CS CC CL : Addr} (hK : ScK K CS CC CL) (ds : List D) (Q E : EQ) (_ : ds.length = 1) (h : g_show_claim CS CC ds Q E) : tb_show_claim K CS (dE Q E) (startD N_show_claim ds) := by
  obtain ⟨k, n, t, r, s, rfl, n3, hr, hs, ht, q⟩ := h
  have k1 := hK.f_Settles_start
  have k2 := hK.f_Settles_rows
  have k3 := hK.f_Settles_turn
  have k4 := hK.f_Comes_start
  have k5 := hK.f_Comes_goal
  have k6 := hK.f_Comes_turns
  have i1 := hK.i_Settles
  have i2 := hK.i_Comes
  have lg := log_of ht
  have lt := numS_len ht
  have l1 := roomS_len n3 hr
  have l2 := roomS_len n3 hs
  have rk : ∀ {rs}, okRw n rs → (∀ r ∈ rs, r.length ≤ 10 ∧ ∀ z ∈ r, okN z) ∧ rs.length ≤ 10 := fun h => ⟨fun r hr => ⟨by have := (h.2 r hr).1; omega, (h.2 r hr).2⟩, by have := h.1; omega⟩
  unfold tb_show_claim dE
  have join3 : ∀ k, (Q (.str (clmS (wdS k) t r s))) → (Str.ofString (if k then "settles " else "comes ")).length ≤ 8 → (wdS k ++ Str.ofString " " = Str.ofString (if k then "settles " else "comes ")) →
      kJoin (Str.ofString " | ") Q (D.lst [D.str (Str.ofString (if k then "settles " else "comes ") ++ numS t), D.str (roomS r), D.str (roomS s)]) := fun k q h1 h2 => by
    refine ⟨[_, _, _], rfl, ?_, ?_⟩
    · show ((Str.ofString (if k = true then "settles " else "comes ") ++ numS t).length + ((roomS r).length + ((roomS s).length + 0))) + 3 * (Str.ofString " | ").length ≤ 16777216
      rw [sapp_len, show (Str.ofString " | ").length = 3 from by decide +kernel]
      omega
    · rw [← h2]
      exact q
  cases k with
  | true =>
    rw [show clmD CS CC true t r s = .ins CS (stlF (tups r) (tups s) (.int t)) from rfl]
    have j3 := join3 true q (by decide +kernel) (by decide +kernel)
    have ln : (Str.ofString "settles ").length + (numS t).length ≤ 16777216 := by rw [show (Str.ofString "settles ").length = 8 from by decide +kernel]; omega
    walk_at "go"
    rw [hK.k_Settles_Settles]
    walk_at "go"
    refine ⟨ln, ?_⟩
    walk_at "go"
    refine ⟨r, rfl, (rk hr).1, (rk hr).2, ?_⟩
    walk_at "go"
    refine ⟨s, rfl, (rk hs).1, (rk hs).2, ?_⟩
    walk_at "go"
    exact j3
  | false =>
    rw [show clmD CS CC false t r s = .ins CC (cmcF (tups r) (tups s) (.int t)) from rfl]
    have j3 := join3 false q (by decide +kernel) (by decide +kernel)
    have ln : (Str.ofString "comes ").length + (numS t).length ≤ 16777216 := by rw [show (Str.ofString "comes ").length = 6 from by decide +kernel]; omega
    walk_at "go"
    rw [hK.k_Comes_Settles]
    walk_at "go"
    refine ⟨ln, ?_⟩
    walk_at "go"
    refine ⟨r, rfl, (rk hr).1, (rk hr).2, ?_⟩
    walk_at "go"
    refine ⟨s, rfl, (rk hs).1, (rk hs).2, ?_⟩
    walk_at "go"
    exact j3
theorem wd_free (k : Bool) : 32 ∉ tl (wdS k) := by cases k <;> decide +kernel
theorem rd_claim_of {CS CC : Addr} (ds : List D) (Q E : EQ) (_ : ds.length = 2) (h : g_claim_of CS CC ds Q E) : tb_claim_of CS CC (dE Q E) (startD N_claim_of ds) := by
  obtain ⟨k, n, t, r, s, rfl, n3, hr, hs, ht, t0, q⟩ := h
  have lt := numS_len ht
  have wl : (wdS k).length ≤ 7 := by cases k <;> decide +kernel
  have pl : (wdS k ++ Str.ofString " " ++ numS t).length ≤ 16777216 := by rw [sapp_len, sapp_len, sp1]; omega
  have pp : Txt.partition (wdS k ++ Str.ofString " " ++ numS t) (Str.ofString " ") = (wdS k, Str.ofString " ", numS t) := partition_app sp_tl (wd_free k)
  unfold tb_claim_of dE
  walk_at "go"
  rw [pp]
  walk_at "go"
  cases k with
  | true =>
    rw [show wdS true = Str.ofString "settles" from rfl]
    walk_at "go"
    refine ⟨t, rfl, ht, ?_⟩
    walk_at "go"
    rw [decide_eq_false (show ¬ t < 0 by omega)]
    walk_at "go"
    refine ⟨r, n, rfl, by omega, hr, ?_⟩
    walk_at "go"
    refine ⟨s, n, rfl, by omega, hs, ?_⟩
    walk_at "go"
    refine ⟨_, _, _, rfl, ?_⟩
    exact q
  | false =>
    rw [show wdS false = Str.ofString "comes" from rfl]
    walk_at "go"
    refine ⟨t, rfl, ht, ?_⟩
    walk_at "go"
    rw [decide_eq_false (show ¬ t < 0 by omega)]
    walk_at "go"
    refine ⟨r, n, rfl, by omega, hr, ?_⟩
    walk_at "go"
    refine ⟨s, n, rfl, by omega, hs, ?_⟩
    walk_at "go"
    refine ⟨_, _, _, rfl, ?_⟩
    exact q
theorem rd_read_claim {K : PySem.W.Frag} {CS CC : Addr} (ds : List D) (Q E : EQ) (_ : ds.length = 2) (h : g_read_claim CS CC ds Q E) : tb_read_claim K CS CC (dE Q E) (startD N_read_claim ds) := by
  obtain ⟨k, n, t, r, s, rfl, n3, hr, hs, ht, t0, q⟩ := h
  have lt := numS_len ht
  have l1 := roomS_len n3 hr
  have l2 := roomS_len n3 hs
  have wl : (wdS k).length ≤ 7 := by cases k <;> decide +kernel
  have e := clm_split k t r s
  have cl : (clmS (wdS k) t r s).length ≤ 10000 := by
    have a := join_len (y := Str.ofString " | ") (L := 3110) (ys := [wdS k ++ Str.ofString " " ++ numS t, roomS r, roomS s]) fun z hz => by
      rcases List.mem_cons.mp hz with rfl | hz
      · rw [sapp_len, sapp_len, sp1]; omega
      rcases List.mem_cons.mp hz with rfl | hz
      · exact l1
      rw [List.mem_singleton.mp hz]; exact l2
    rw [show (Str.ofString " | ").length = 3 from by decide +kernel] at a
    exact Nat.le_trans a (Nat.le_of_ble_eq_true rfl)
  unfold tb_read_claim dE
  have fw : few ((Txt.split (clmS (wdS k) t r s) (Str.ofString " | ")).map D.str) := by rw [e]; exact few_of (Nat.le_of_ble_eq_true rfl)
  generalize clmS (wdS k) t r s = T at e cl fw ⊢
  walk_at "go"
  rw [e]
  exact ⟨k, n, t, r, s, rfl, n3, hr, hs, ht, t0, q⟩
end K92

namespace K92
open PySem PySem.Spec
open PyProof.Rows L2 Dl
open Lp
open TL
theorem lnS_eq (w : Str) {zs : List Int} (h : zs ≠ []) : lnS (w, zs) = w ++ Str.ofString " " ++ rowS zs := by
  unfold lnS lnW rowS
  rw [join_cons _ _ (fun z => h (List.map_eq_nil_iff.mp z))]
theorem tabI_ne {n : Nat} {f : Nat → Int} (h : 0 < n) : tabI n f ≠ [] := fun z => by
  have := congrArg List.length z
  rw [tabI_len] at this
  exact absurd this (by rw [List.length_nil]; omega)
theorem rw_word : Str.ofString "row " = Str.ofString "row" ++ Str.ofString " " := by decide +kernel
theorem nx_word : Str.ofString "next " = Str.ofString "next" ++ Str.ofString " " := by decide +kernel
theorem md_word : Str.ofString "mode " = Str.ofString "mode" ++ Str.ofString " " := by decide +kernel
theorem pu_word : Str.ofString "push " = Str.ofString "push" ++ Str.ofString " " := by decide +kernel
theorem nu_word : Str.ofString "numbers " = Str.ofString "numbers" ++ Str.ofString " " := by decide +kernel
theorem row_loop {n : Nat} {d : DE} {m s3 : Sl} (n3 : n ≤ 3) : ∀ (rs : List (Nat → Int)) (acc : List D) (s2 : Sl), (∀ r ∈ rs, ∀ j, okN (r j)) → acc.length + rs.length ≤ 100 → (∀ s2, d.nx [m, .ow (acc ++ rs.map fun r => .str (lnS (Str.ofString "row", tabI (n + 1) r))), s2, s3]) →
    loopD (gNm 2) (dApp 1 (dOp kAdd (dC (.str "row ")) (dCall 1 [] g_show_numbers (dCons (dVar 2) dNil)))) d (rs.map (rowW (n + 1))) [m, .ow acc, s2, s3]
  | [], acc, s2, _, _, h => lp_nil (by have h := h s2; rw [List.map_nil, List.append_nil] at h; exact h)
  | r :: rs, acc, s2, hr, hl, h => by
    rw [List.length_cons] at hl
    have ok := tabI_ok (n := n + 1) (hr r List.mem_cons_self)
    have l := row_len ok
    rw [tabI_len] at l
    have e := lnS_eq (Str.ofString "row") (tabI_ne (n := n + 1) (f := r) (Nat.succ_pos _))
    refine lp_cons ?_
    walk_at "go"
    refine ⟨tabI (n + 1) r, _, rfl, .inl (by rw [tabI_ints]; rfl), ok, by rw [tabI_len]; omega, ?_⟩
    have ln : (Str.ofString "row ").length + (rowS (tabI (n + 1) r)).length ≤ 16777216 := by rw [show (Str.ofString "row ").length = 4 from by decide +kernel]; omega
    walk_at "go"
    rw [rw_word, ← e]
    refine row_loop n3 rs _ _ (fun x hx => hr x (List.mem_cons_of_mem _ hx)) (by rw [List.length_append, List.length_singleton]; omega) fun s2 => ?_
    have h := h s2
    rw [List.map_cons] at h
    rw [List.append_assoc]
    exact h
theorem lstL_at {n w k : Nat} {R : Mat} (h : k < n) : atI (lstL n w R) (k : Int) = some (.lst (tabD w (R k))) := by rw [atI_nn]; exact lstL_get h
theorem tab_at {n k : Nat} {F : Nat → Int} (h : k < n) : atI (tabD n F) (k : Int) = some (.int (F k)) := by rw [atI_nn, tab_get h]
theorem nx_ok {n p : Nat} {m : Md} (h : okM m) (i : Nat) : ∀ z ∈ nxI n p m i, okN z := fun z hz => by
  unfold nxI at hz
  rcases List.mem_append.mp hz with hz | hz
  · rcases List.mem_append.mp hz with hz | hz
    · rcases List.mem_append.mp hz with hz | hz
      · exact tabI_ok (h.nexts i) z hz
      · rw [List.mem_singleton.mp hz]; exact h.steer i
    · exact tabI_ok (h.push i) z hz
  · rw [List.mem_singleton.mp hz]; exact h.add i
theorem nx_len {n p : Nat} {m : Md} (i : Nat) : (nxI n p m i).length = n + p + 2 := by
  unfold nxI
  rw [List.length_append, List.length_append, List.length_append, tabI_len, tabI_len, List.length_singleton, List.length_singleton]
  omega
theorem nx_D {n p : Nat} {m : Md} (i : Nat) : (nxI n p m i).map D.int = tabD n (m.nexts i) ++ [D.int (m.steer i)] ++ tabD p (m.push i) ++ [D.int (m.add i)] := by
  unfold nxI
  rw [List.map_append, List.map_append, List.map_append, tabI_ints, tabI_ints]
  rfl
abbrev nxB (K : PySem.W.Frag) : DS := (dApp 1 (dOp kAdd (dC (.str "next ")) (dCall 1 [] g_show_numbers (dCons (dOp kAdd (dOp kAdd (dOp kAdd (dOp kIx (dFld K "nexts" (dVar 0)) (dVarP 3)) (dLst (dCons (dOp kIx (dFld K "steer" (dVar 0)) (dVarP 3)) dNil))) (dOp kIx (dFld K "push" (dVar 0)) (dVarP 3))) (dLst (dCons (dOp kIx (dFld K "add" (dVar 0)) (dVarP 3)) dNil))) dNil))))
theorem nx_loop {K : PySem.W.Frag} {CM CT : Addr} (hT : ThK K CM CT) {n p : Nat} {m : Md} {d : DE} {s2 : Sl} (n3 : n ≤ 3) (p6 : p ≤ 6) (ok : okM m) : ∀ (t k : Nat) (acc : List D) (s3 : Sl), k + t = n → acc.length + t ≤ 200 →
    (∀ s3, d.nx [.sh (mdI CM n p m), .ow (acc ++ (List.range' k t).map fun i => .str (lnS (Str.ofString "next", nxI n p m i))), s2, s3]) →
    loopD (gNm 3) (nxB K) d (irg k t) [.sh (mdI CM n p m), .ow acc, s2, s3]
  | 0, k, acc, s3, _, _, h => lp_r0 (by have h := h s3; rw [List.range'_zero, List.map_nil, List.append_nil] at h; exact h)
  | t + 1, k, acc, s3, hk, hl, h => by
    have k2 := hT.f_Mode_nexts
    have k3 := hT.f_Mode_steer
    have k4 := hT.f_Mode_push
    have k5 := hT.f_Mode_add
    have kn : k < n := by omega
    have ok1 := nx_ok (n := n) (p := p) ok k
    have l1 := nx_len (n := n) (p := p) (m := m) k
    have l := row_len ok1
    rw [l1] at l
    have e := lnS_eq (Str.ofString "next") (zs := nxI n p m k) (fun z => by rw [z] at l1; rw [List.length_nil] at l1; omega)
    refine lp_rs ?_
    unfold mdI
    walk_at "go"
    rw [lstL_at kn]
    walk_at "go"
    rw [tab_at kn]
    walk_at "go"
    rw [lstL_at kn]
    walk_at "go"
    rw [tab_at kn]
    walk_at "go"
    refine ⟨nxI n p m k, _, rfl, .inr (by rw [nx_D]), ok1, by rw [l1]; omega, ?_⟩
    have ln : (Str.ofString "next ").length + (rowS (nxI n p m k)).length ≤ 16777216 := by rw [show (Str.ofString "next ").length = 5 from by decide +kernel]; omega
    walk_at "go"
    rw [nx_word, ← e]
    have ih := nx_loop hT n3 p6 ok (s2 := s2) (d := d) t (k + 1) (acc ++ [.str (lnS (Str.ofString "next", nxI n p m k))]) (.sh (.int k)) (by omega) (by rw [List.length_append, List.length_singleton]; omega) fun s3 => by
      have h := h s3
      rw [List.range'_succ, List.map_cons] at h
      rw [List.append_assoc]
      exact h
    exact ih
theorem rd_rows_of_mode {K : PySem.W.Frag} {CM CT : Addr} (hT : ThK K CM CT) (ds : List D) (Q E : EQ) (_ : ds.length = 1) (h : g_rows_of_mode CM ds Q E) : tb_rows_of_mode K (dE Q E) (startD N_rows_of_mode ds) := by
  obtain ⟨n, p, m, rfl, n3, p6, ok, q⟩ := h
  have k1 := hT.f_Mode_rows
  have k2 := hT.f_Mode_nexts
  have k3 := hT.f_Mode_steer
  have k4 := hT.f_Mode_push
  have k5 := hT.f_Mode_add
  have k6 := hT.f_Mode_divisor
  have lg := log_of ok.dv
  have lt := numS_len ok.dv
  have ln : (Str.ofString "mode ").length + (numS m.div).length ≤ 16777216 := by rw [show (Str.ofString "mode ").length = 5 from by decide +kernel]; omega
  unfold tb_rows_of_mode dE mdI
  walk_at "go"
  refine ⟨ln, ?_⟩
  walk_at "go"
  refine row_loop n3 m.rows _ _ ok.rows (by have := ok.few; rw [List.length_singleton]; omega) fun s2 => ?_
  walk_at "go"
  rw [lstL_len]
  refine ⟨by omega, by omega, ?_⟩
  rw [Int.toNat_natCast]
  refine nx_loop hT n3 p6 ok n 0 _ _ (by omega) (by rw [List.length_cons, List.length_map]; have := ok.few; omega) fun s3 => ?_
  walk_at "go"
  rw [← List.range_eq_range']
  unfold mdL rwL nxL at q
  rw [List.map_cons, List.map_append, List.map_map, List.map_map, lnS_eq _ (List.cons_ne_nil _ _), ← md_word] at q
  exact q
end K92

namespace K92
open PySem PySem.Spec
open PyProof.Rows L2 Dl
open Lp
open TL
theorem push_loop {d : DE} {m s4 : Sl} : ∀ (ps : List (Int × Int)) (acc : List D) (s2 s3 : Sl), (∀ q ∈ ps, q.1 ≤ q.2 ∧ okN q.1 ∧ okN q.2) → acc.length + ps.length ≤ 100 → (∀ s2 s3, d.nx [m, .ow (acc ++ (psL ps).map fun l => .str (lnS l)), s2, s3, s4]) →
    loopD (gTp 2 (gCs (gNm 2) (gCs (gNm 3) gNl))) (dApp 1 (dOp kAdd (dOp kAdd (dOp kAdd (dC (.str "push ")) (dCB kStrI (dCons (dVarP 2) dNil))) (dC (.str " "))) (dCB kStrI (dCons (dVarP 3) dNil)))) d (ps.map pD) [m, .ow acc, s2, s3, s4]
  | [], acc, s2, s3, _, _, h => lp_nil (by have h := h s2 s3; rw [show psL [] = [] from rfl, List.map_nil, List.append_nil] at h; exact h)
  | (lo, hi) :: ps, acc, s2, s3, hr, hl, h => by
    rw [List.length_cons] at hl
    obtain ⟨_, o1, o2⟩ := hr _ List.mem_cons_self
    have o1 : okN lo := o1
    have o2 : okN hi := o2
    have g1 := log_of o1
    have g2 := log_of o2
    have t1 := numS_len o1
    have t2 := numS_len o2
    have e : Str.ofString "push " ++ numS lo ++ Str.ofString " " ++ numS hi = lnS (Str.ofString "push", [lo, hi]) := by
      rw [lnS_eq _ (List.cons_ne_nil _ _), pu_word]
      unfold rowS
      rw [List.map_cons, join_cons _ _ (q := [hi].map numS) (List.cons_ne_nil _ _), List.map_cons, List.map_nil, Dl.join_one]
      simp only [sapp]
    have b0 : (Str.ofString "push ").length = 5 := by decide +kernel
    have b1 := sapp_len (Str.ofString "push ") (numS lo)
    have b2 := sapp_len (Str.ofString "push " ++ numS lo) (Str.ofString " ")
    have l1 : (Str.ofString "push ").length + (numS lo).length ≤ 16777216 := by omega
    have l2 : (Str.ofString "push " ++ numS lo).length + (Str.ofString " ").length ≤ 16777216 := by rw [sp1]; omega
    have l3 : (Str.ofString "push " ++ numS lo ++ Str.ofString " ").length + (numS hi).length ≤ 16777216 := by rw [b2, sp1]; omega
    refine lp_cons ?_
    unfold pD
    walk_at "go"
    refine ⟨l1, ?_⟩
    walk_at "go"
    refine ⟨l2, ?_⟩
    walk_at "go"
    refine ⟨l3, ?_⟩
    have hf : few (acc ++ [D.str (Str.ofString "push " ++ numS lo ++ Str.ofString " " ++ numS hi)]) := few_of (by rw [List.length_append, List.length_singleton]; omega)
    refine ⟨hf, ?_⟩
    have ih := push_loop (d := d) (m := m) (s4 := s4) ps (acc ++ [D.str (Str.ofString "push " ++ numS lo ++ Str.ofString " " ++ numS hi)]) (.sh (.int lo)) (.sh (.int hi)) (fun x hx => hr x (List.mem_cons_of_mem _ hx)) (by rw [List.length_append, List.length_singleton]; omega) fun s2 s3 => by
      have h := h s2 s3
      rw [show psL ((lo, hi) :: ps) = (Str.ofString "push", [lo, hi]) :: psL ps from rfl, List.map_cons, ← e] at h
      rw [List.append_assoc]
      exact h
    exact ih
theorem mdL_len {n p : Nat} {m : Md} (ok : okM m) (n3 : n ≤ 3) : (mdL n p m).length ≤ 7 := by
  unfold mdL rwL nxL
  rw [List.length_cons, List.length_append, List.length_map, List.length_map, List.length_range]
  have := ok.few
  omega
theorem mode_loop {CM : Addr} {n p : Nat} {d : DE} {t s2 s3 : Sl} (n3 : n ≤ 3) (p6 : p ≤ 6) : ∀ (ms : List Md) (acc : List D) (s4 : Sl), (∀ m ∈ ms, okM m) → acc.length + 7 * ms.length ≤ 1000 → (∀ s4, d.nx [t, .ow (acc ++ (ms.flatMap (mdL n p)).map fun l => .str (lnS l)), s2, s3, s4]) →
    loopD (gNm 4) (dOwn 1 (dAddN (dVarP 1) (dCall 1 [] (g_rows_of_mode CM) (dCons (dVar 4) dNil)))) d (ms.map (mdI CM n p)) [t, .ow acc, s2, s3, s4]
  | [], acc, s4, _, _, h => lp_nil (by have h := h s4; rw [List.flatMap_nil, List.map_nil, List.append_nil] at h; exact h)
  | m :: ms, acc, s4, hm, hl, h => by
    rw [List.length_cons] at hl
    have ok := hm m List.mem_cons_self
    have l7 := mdL_len (p := p) ok n3
    refine lp_cons ?_
    walk_at "go"
    refine ⟨n, p, m, rfl, n3, p6, ok, ?_⟩
    have hf : few (acc ++ (mdL n p m).map fun l => D.str (lnS l)) := few_of (by rw [List.length_append, List.length_map]; omega)
    walk_at "go"
    refine mode_loop n3 p6 ms _ _ (fun x hx => hm x (List.mem_cons_of_mem _ hx)) (by rw [List.length_append, List.length_map]; omega) fun s4 => ?_
    have h := h s4
    rw [List.flatMap_cons, List.map_append] at h
    rw [List.append_assoc]
    exact h
theorem okN_small {k : Nat} (h : k ≤ 1000) : okN (k : Int) := by
  show (k : Int).natAbs < 10 ^ 60
  rw [Int.natAbs_natCast]
  exact Nat.lt_of_le_of_lt h (by decide +kernel)
theorem lnS_len {l : Ln} (hw : l.1.length ≤ 10) (h : ∀ z ∈ l.2, okN z) (hl : l.2.length ≤ 20) (hn : l.2 ≠ []) : (lnS l).length ≤ 2000 := by
  obtain ⟨w, zs⟩ := l
  rw [lnS_eq w hn, sapp_len, sapp_len, sp1]
  have := row_len h
  have hl : zs.length ≤ 20 := hl
  have hw : w.length ≤ 10 := hw
  have : (rowS zs).length ≤ zs.length * 62 := this
  omega
/-- lines of a thing: words that are short, numbers that may be shown -/
def okLn (l : Ln) : Prop := l.1.length ≤ 10 ∧ (∀ z ∈ l.2, okN z) ∧ l.2.length ≤ 20 ∧ l.2 ≠ [] ∧ 32 ∉ tl l.1 ∧ 10 ∉ tl l.1
abbrev okW (w : Str) : Prop := w.length ≤ 10 ∧ 32 ∉ tl w ∧ 10 ∉ tl w
theorem w_mode : okW (Str.ofString "mode") := by decide +kernel
theorem w_row : okW (Str.ofString "row") := by decide +kernel
theorem w_next : okW (Str.ofString "next") := by decide +kernel
theorem w_push : okW (Str.ofString "push") := by decide +kernel
theorem w_numbers : okW (Str.ofString "numbers") := by decide +kernel
theorem okLn_of {w : Str} {zs : List Int} (h : okW w) (h1 : ∀ z ∈ zs, okN z) (h2 : zs.length ≤ 20) (h3 : zs ≠ []) : okLn (w, zs) := ⟨h.1, h1, h2, h3, h.2.1, h.2.2⟩
theorem md_okLn {n p : Nat} {m : Md} (n3 : n ≤ 3) (p6 : p ≤ 6) (ok : okM m) : ∀ l ∈ mdL n p m, okLn l := fun l hl => by
  unfold mdL at hl
  rcases List.mem_cons.mp hl with rfl | hl
  · exact okLn_of w_mode (fun z hz => by rw [List.mem_singleton.mp hz]; exact ok.dv) (Nat.le_of_ble_eq_true rfl) (List.cons_ne_nil _ _)
  rcases List.mem_append.mp hl with hl | hl
  · obtain ⟨r, hr, rfl⟩ := List.mem_map.mp hl
    exact okLn_of w_row (tabI_ok (ok.rows r hr)) (by rw [tabI_len]; omega) (tabI_ne (Nat.succ_pos _))
  · obtain ⟨i, _, rfl⟩ := List.mem_map.mp hl
    have l1 := nx_len (n := n) (p := p) (m := m) i
    exact okLn_of w_next (nx_ok ok i) (by rw [l1]; omega) (fun z => by rw [z, List.length_nil] at l1; omega)
theorem th_okLn {n : Nat} {ps : List (Int × Int)} {ms : List Md} (ok : okTh n ps ms) : ∀ l ∈ thL n ps ms, okLn l := fun l hl => by
  unfold thL at hl
  rcases List.mem_cons.mp hl with rfl | hl
  · exact okLn_of w_numbers (fun z hz => by rw [List.mem_singleton.mp hz]; exact okN_small (by have := ok.n3; omega)) (Nat.le_of_ble_eq_true rfl) (List.cons_ne_nil _ _)
  rcases List.mem_append.mp hl with hl | hl
  · obtain ⟨q, hq, rfl⟩ := List.mem_map.mp hl
    refine okLn_of w_push (fun z hz => ?_) (Nat.le_of_ble_eq_true rfl) (List.cons_ne_nil _ _)
    rcases List.mem_cons.mp hz with rfl | hz
    · exact (ok.pp q hq).2.1
    rw [List.mem_singleton.mp hz]
    exact (ok.pp q hq).2.2
  · obtain ⟨m, hm, hl⟩ := List.mem_flatMap.mp hl
    exact md_okLn ok.n3 ok.p6 (ok.mm m hm) l hl
theorem flat_le {n p : Nat} (n3 : n ≤ 3) : ∀ {ms : List Md}, (∀ m ∈ ms, okM m) → (ms.flatMap (mdL n p)).length ≤ 7 * ms.length
  | [], _ => Nat.zero_le _
  | m :: ms, h => by
    rw [List.flatMap_cons, List.length_append, List.length_cons]
    have := mdL_len (p := p) (h m List.mem_cons_self) n3
    have := flat_le (n := n) (p := p) n3 fun x hx => h x (List.mem_cons_of_mem _ hx)
    omega
theorem th_len {n : Nat} {ps : List (Int × Int)} {ms : List Md} (ok : okTh n ps ms) : (thL n ps ms).length ≤ 35 := by
  unfold thL psL
  rw [List.length_cons, List.length_append, List.length_map]
  have := flat_le (p := ps.length) ok.n3 ok.mm
  have := ok.m4
  have := ok.p6
  omega
theorem rd_show_thing {K : PySem.W.Frag} {CM CT : Addr} (hT : ThK K CM CT) (ds : List D) (Q E : EQ) (_ : ds.length = 1) (h : g_show_thing CM CT ds Q E) : tb_show_thing K CT CM (dE Q E) (startD N_show_thing ds) := by
  obtain ⟨n, ps, ms, rfl, ok, q⟩ := h
  have k1 := hT.f_Thing_many
  have on : okN (n : Int) := okN_small (by have := ok.n3; omega)
  have lg := log_of on
  have lt := numS_len on
  have ln : (Str.ofString "numbers ").length + (numS n).length ≤ 16777216 := by rw [show (Str.ofString "numbers ").length = 8 from by decide +kernel]; omega
  have p6 := ok.p6
  have m4 := ok.m4
  unfold tb_show_thing dE thI
  walk_at "go"
  refine ⟨ln, ?_⟩
  walk_at "go"
  refine ⟨_, _, _, rfl, ?_⟩
  walk_at "go"
  refine push_loop ps _ _ _ ok.pp (by rw [List.length_singleton]; omega) fun s2 s3 => ?_
  walk_at "go"
  refine ⟨_, _, _, rfl, ?_⟩
  walk_at "go"
  refine mode_loop ok.n3 ok.p6 ms _ _ ok.mm (by rw [List.length_cons, List.length_map]; unfold psL; rw [List.length_map]; omega) fun s4 => ?_
  walk_at "go"
  have e : (thL n ps ms).map (fun l => D.str (lnS l)) = [D.str (Str.ofString "numbers " ++ numS n)] ++ (psL ps).map (fun l => D.str (lnS l)) ++ (ms.flatMap (mdL n ps.length)).map fun l => D.str (lnS l) := by
    unfold thL
    rw [List.map_cons, List.map_append, lnS_eq _ (List.cons_ne_nil _ _), ← nu_word]
    rfl
  have b := sum_le (L := 2000) (ys := (thL n ps ms).map lnS) fun y hy => by
    obtain ⟨l, hm, rfl⟩ := List.mem_map.mp hy
    obtain ⟨h1, h2, h3, h4, _⟩ := th_okLn ok l hm
    exact lnS_len h1 h2 h3 h4
  have tl := th_len ok
  rw [List.length_map] at b
  refine ⟨(thL n ps ms).map lnS, ?_, ?_, q⟩
  · rw [List.map_map]
    exact e.symm
  · rw [show (Str.ofString "\n").length = 1 from by decide +kernel, List.length_map]; omega
end K92

namespace K92
open PySem PySem.Spec
open PyProof.Rows L2 Dl
open Lp
open TL
theorem rows_at (a r : List Ln) (k : Nat) : atI ((a ++ r).map lnD) ((a.length : Int) + (k : Int)) = (r[k]?).map lnD := by
  rw [show (a.length : Int) + (k : Int) = ((a.length + k : Nat) : Int) by omega, atI_nn, List.getElem?_map, List.getElem?_append_right (by omega), show a.length + k - a.length = k by omega]
def hdD (l : Ln) : D := .lst ((l.2.map numS).map .str)
theorem cut_tail {α : Type} (x : α) (xs : List α) : cut (x :: xs) (some 1) none = xs := by
  have e := cut_end x [] xs (k := 1) rfl
  exact e
theorem rd_headed (ds : List D) (Q E : EQ) (_ : ds.length = 3) (h : g_headed ds Q E) : tb_headed (dE Q E) (startD N_headed ds) := by
  obtain ⟨a, b, c, w, rfl, hl, hb, hc, q⟩ := h
  have q : Q (.lst (b.map hdD)) := q
  unfold tb_headed dE
  walk_at "go"
  refine ⟨fun m ρ => ∃ k, k ≤ b.length ∧ m = b.length - k ∧ ρ = [.sh (.lst ((a ++ (b ++ c)).map lnD)), .sh (.int a.length), .sh (.str w), .ow ((b.take k).map hdD)], ⟨b.length, 0, Nat.zero_le _, rfl, rfl⟩, ?_⟩
  rintro m ρ ⟨k, hk, rfl, rfl⟩
  have e0 : ((b.take k).map hdD).length = k := by rw [List.length_map, List.length_take]; omega
  have e1 : ((a ++ (b ++ c)).map lnD).length = a.length + b.length + c.length := by rw [List.length_map, List.length_append, List.length_append]; omega
  have ra := rows_at a (b ++ c) k
  walk_at "go"
  rw [e0, e1]
  by_cases kb : k < b.length
  · obtain ⟨l, el⟩ : ∃ l, b[k]'kb = l := ⟨_, rfl⟩
    have gk : b[k]? = some l := by rw [List.getElem?_eq_getElem kb, el]
    have gb : (b ++ c)[k]? = some l := by rw [List.getElem?_append_left kb, gk]
    have hw : l.1 = w := hb l (by rw [← el]; exact List.getElem_mem kb)
    rw [gb, show Option.map lnD (some l) = some (.lst (.str l.1 :: (l.2.map numS).map .str)) from rfl] at ra
    rw [decide_eq_true (show ((a.length : Int) + (k : Int)) < ((a.length + b.length + c.length : Nat) : Int) by omega)]
    walk_at "go"
    rw [e0, ra]
    walk_at "go"
    rw [atI_z]
    walk_at "go"
    rw [decide_eq_true hw]
    walk_at "go"
    rw [e0, ra]
    walk_at "go"
    rw [cut_tail]
    have es : (b.take k).map hdD ++ [.lst ((l.2.map numS).map .str)] = (b.take (k + 1)).map hdD := by
      rw [List.take_add_one, gk, List.map_append]
      rfl
    rw [es]
    refine ⟨few_of (by rw [List.length_map, List.length_take]; rw [List.length_append, List.length_append] at hl; omega), ?_⟩
    exact ⟨_, by omega, k + 1, by omega, rfl, rfl⟩
  · have kb : k = b.length := by omega
    subst kb
    have gb : (b ++ c)[b.length]? = c.head? := by rw [List.getElem?_append_right (Nat.le_refl _), Nat.sub_self, List.head?_eq_getElem?]
    rw [gb] at ra
    cases c with
    | nil =>
      rw [decide_eq_false (show ¬ ((a.length : Int) + (b.length : Int)) < ((a.length + b.length + [].length : Nat) : Int) by rw [List.length_nil]; omega)]
      walk_at "go"
      rw [List.take_length]
      exact q
    | cons l c =>
      have hw : l.1 ≠ w := hc l rfl
      rw [show Option.map lnD (l :: c).head? = some (.lst (.str l.1 :: (l.2.map numS).map .str)) from rfl] at ra
      rw [decide_eq_true (show ((a.length : Int) + (b.length : Int)) < ((a.length + b.length + (l :: c).length : Nat) : Int) by rw [List.length_cons]; omega)]
      walk_at "go"
      rw [e0, ra]
      walk_at "go"
      rw [atI_z]
      walk_at "go"
      rw [decide_eq_false hw]
      walk_at "go"
      rw [List.take_length]
      exact q
theorem rows_at0 (a : List Ln) (l : Ln) (r : List Ln) : atI ((a ++ (l :: r)).map lnD) (a.length : Int) = some (.lst (.str l.1 :: (l.2.map numS).map .str)) := by
  have e := rows_at a (l :: r) 0
  rw [show (a.length : Int) + ((0 : Nat) : Int) = (a.length : Int) by omega] at e
  rw [e]
  rfl
theorem cut_take {α : Type} (A B : List α) {k : Int} (h : k = (A.length : Int)) : cut (A ++ B) none (some k) = A := by
  subst h
  unfold cut
  rw [HT.sIx_nat, HT.sIx_none, List.length_append, Nat.sub_zero, List.drop_zero, show min A.length (A.length + B.length) = A.length by omega, List.take_left]
theorem atI_mid {α : Type} (A : List α) (x : α) (B : List α) {k : Int} (h : k = (A.length : Int)) : atI (A ++ [x] ++ B) k = some x := by
  subst h
  rw [atI_nn, List.append_assoc, List.getElem?_append_right (Nat.le_refl _), Nat.sub_self]
  rfl
theorem cut_in {α : Type} (A : List α) (x : α) (B : List α) (y : α) {k : Int} (h : k = ((A.length + 1 : Nat) : Int)) : cut (A ++ [x] ++ B ++ [y]) (some k) (some (-1)) = B := by
  subst h
  unfold cut
  have el : (A ++ [x] ++ B ++ [y]).length = A.length + 1 + B.length + 1 := by
    rw [List.length_append, List.length_append, List.length_append]; rfl
  have e : HT.sIx (A ++ [x] ++ B ++ [y]).length (A ++ [x] ++ B ++ [y]).length (some (-1)) = A.length + 1 + B.length := by
    show (if (-1 : Int) < 0 then ((-1 : Int) + ((A ++ [x] ++ B ++ [y]).length : Int)).toNat else min (-1 : Int).toNat (A ++ [x] ++ B ++ [y]).length) = _
    rw [if_pos (by decide), el]
    omega
  rw [e, HT.sIx_nat, el, show min (A.length + 1) (A.length + 1 + B.length + 1) = A.length + 1 by omega, List.append_assoc (A ++ [x]) B [y]]
  rw [show A.length + 1 = (A ++ [x]).length by rw [List.length_append]; rfl, List.drop_left, show (A ++ [x]).length + B.length - (A ++ [x]).length = B.length by omega, List.take_left]
theorem ne_nr : Str.ofString "next" ≠ Str.ofString "row" := by decide +kernel
theorem ne_mn : Str.ofString "mode" ≠ Str.ofString "next" := by decide +kernel
theorem ne_mp : Str.ofString "mode" ≠ Str.ofString "push" := by decide +kernel
theorem rd_read_mode {CM : Addr} (ds : List D) (Q E : EQ) (_ : ds.length = 4) (h : g_read_mode CM ds Q E) : tb_read_mode CM (dE Q E) (startD N_read_mode ds) := by
  obtain ⟨n, p, m, a, c, rfl, n1, n3, p6, ok, hl, hc, q⟩ := h
  obtain ⟨l0, hl0⟩ : ∃ l0 : Ln, (Str.ofString "mode", [m.div]) = l0 := ⟨_, rfl⟩
  have em : mdL n p m = l0 :: (rwL n m ++ nxL n p m) := by rw [← hl0]; rfl
  have rl : (rwL n m).length = m.rows.length := by unfold rwL; rw [List.length_map]
  have nl : (nxL n p m).length = n := by unfold nxL; rw [List.length_map, List.length_range]
  have e1 : a ++ (mdL n p m ++ c) = a ++ (l0 :: (rwL n m ++ (nxL n p m ++ c))) := by rw [em, List.cons_append, List.append_assoc]
  have e2 : a ++ (mdL n p m ++ c) = (a ++ [l0]) ++ (rwL n m ++ (nxL n p m ++ c)) := by rw [e1, List.append_assoc]; rfl
  have e3 : a ++ (mdL n p m ++ c) = (a ++ [l0] ++ rwL n m) ++ (nxL n p m ++ c) := by rw [e2, ← List.append_assoc]
  have ra : atI ((a ++ (mdL n p m ++ c)).map lnD) (a.length : Int) = some (.lst (.str (Str.ofString "mode") :: ([m.div].map numS).map .str)) := by rw [e1, rows_at0, ← hl0]
  have ml : (mdL n p m).length = 1 + m.rows.length + n := by rw [em, List.length_cons, List.length_append, rl, nl]; omega
  rw [ml] at q
  have m3 := ok.few
  generalize mdL n p m = ML at *
  unfold tb_read_mode dE
  walk_at "go"
  rw [ra]
  walk_at "go"
  rw [ra]
  walk_at "go"
  rw [cut_tail]
  refine ⟨[m.div], rfl, fun z hz => by rw [List.mem_singleton.mp hz]; exact ok.dv, ?_⟩
  walk_at "go"
  refine ⟨a ++ [l0], rwL n m, nxL n p m ++ c, Str.ofString "row", ?_, by rw [← e2]; exact hl, fun l h => ?_, fun l h => ?_, ?_⟩
  · rw [← e2, List.length_append, List.length_singleton]
    rfl
  · obtain ⟨r, _, rfl⟩ := List.mem_map.mp h
    rfl
  · obtain ⟨n', rfl⟩ : ∃ n', n = n' + 1 := ⟨n - 1, by omega⟩
    rw [show nxL (n' + 1) p m ++ c = (Str.ofString "next", nxI (n' + 1) p m 0) :: _ from by unfold nxL; rw [List.range_succ_eq_map]; rfl] at h
    injection h with h
    rw [← h]
    exact ne_nr
  walk_at "go"
  rw [show (rwL n m).map (fun l => D.lst ((l.2.map numS).map D.str)) = m.rows.map (fun r => hdD (Str.ofString "row", tabI (n + 1) r)) from by unfold rwL; rw [List.map_map]; rfl]
  refine compL_fun (fun r => hdD (Str.ofString "row", tabI (n + 1) r)) (rowW (n + 1)) m.rows (fun r hr K1 K0 hK => ?_) ?_
  · unfold hdD
    walk_at "go"
    refine ⟨tabI (n + 1) r, by rw [tabI_len]; rfl, tabI_ok (ok.rows r hr), ?_⟩
    walk_at "go"
    rw [tabI_ints]
    exact hK
  walk_at "go"
  refine ⟨a ++ [l0] ++ rwL n m, nxL n p m, c, Str.ofString "next", ?_, by rw [← e3]; exact hl, fun l h => ?_, fun l h => ?_, ?_⟩
  · rw [← e3, List.length_append, List.length_append, List.length_singleton, rl, List.length_map]
    rfl
  · obtain ⟨r, _, rfl⟩ := List.mem_map.mp h
    rfl
  · rw [hc l h]
    exact ne_mn
  walk_at "go"
  rw [List.length_map, nl, decide_eq_true rfl]
  walk_at "go"
  rw [show (nxL n p m).map (fun l => D.lst ((l.2.map numS).map D.str)) = (List.range n).map (fun i => hdD (Str.ofString "next", nxI n p m i)) from by unfold nxL; rw [List.map_map]; rfl]
  refine compL_fun (fun i => hdD (Str.ofString "next", nxI n p m i)) (fun i => D.lst (tabD n (m.nexts i) ++ [D.int (m.steer i)] ++ tabD p (m.push i) ++ [D.int (m.add i)])) (List.range n) (fun i hi K1 K0 hK => ?_) ?_
  · unfold hdD
    walk_at "go"
    refine ⟨nxI n p m i, by rw [nx_len]; rfl, nx_ok ok i, ?_⟩
    rw [nx_D]
    exact hK
  walk_at "go"
  refine compL_fun (fun i => D.lst (tabD n (m.nexts i) ++ [D.int (m.steer i)] ++ tabD p (m.push i) ++ [D.int (m.add i)])) (fun i => D.lst (tabD n (m.nexts i))) (List.range n) (fun i hi K1 K0 hK => ?_) ?_
  · walk_at "go"
    rw [List.append_assoc, List.append_assoc, cut_take _ _ (by rw [tab_len])]
    exact hK
  walk_at "go"
  refine compL_fun (fun i => D.lst (tabD n (m.nexts i) ++ [D.int (m.steer i)] ++ tabD p (m.push i) ++ [D.int (m.add i)])) (fun i => D.int (m.steer i)) (List.range n) (fun i hi K1 K0 hK => ?_) ?_
  · walk_at "go"
    rw [List.append_assoc (tabD n (m.nexts i) ++ [D.int (m.steer i)]), atI_mid _ _ _ (by rw [tab_len])]
    exact hK
  walk_at "go"
  refine compL_fun (fun i => D.lst (tabD n (m.nexts i) ++ [D.int (m.steer i)] ++ tabD p (m.push i) ++ [D.int (m.add i)])) (fun i => D.lst (tabD p (m.push i))) (List.range n) (fun i hi K1 K0 hK => ?_) ?_
  · walk_at "go"
    rw [cut_in _ _ _ _ (by rw [tab_len]; rfl)]
    exact hK
  walk_at "go"
  refine compL_fun (fun i => D.lst (tabD n (m.nexts i) ++ [D.int (m.steer i)] ++ tabD p (m.push i) ++ [D.int (m.add i)])) (fun i => D.int (m.add i)) (List.range n) (fun i hi K1 K0 hK => ?_) ?_
  · walk_at "go"
    rw [atI_e1]
    exact hK
  walk_at "go"
  refine ⟨_, _, _, _, _, _, rfl, ko_rows _ _, ko_lstL n n m.nexts, ko_tab n m.steer, ko_lstL n p m.push, ko_tab n m.add, ?_⟩
  walk_at "go"
  rw [List.length_map, show (a.length : Int) + 1 + (m.rows.length : Int) + (n : Int) = ((a.length + (1 + m.rows.length + n) : Nat) : Int) by omega]
  exact q
theorem nl_tl : tl (Str.ofString "\n") = 10 :: [] := by decide +kernel
theorem lnS_free {l : Ln} (h : okLn l) : 10 ∉ tl (lnS l) := fun hs => by
  have := join_signs (y := Str.ofString " ") (P := fun c => c ≠ 10) (fun c hc => by
    rw [sp_tl] at hc
    rw [List.mem_singleton.mp hc]; decide) (ys := lnW l) (fun y hy c hc => by
    unfold lnW at hy
    rcases List.mem_cons.mp hy with rfl | hy
    · exact fun z => h.2.2.2.2.2 (by rw [← z]; exact hc)
    · obtain ⟨z, hm, rfl⟩ := List.mem_map.mp hy
      rcases numS_signs z c hc with e | e <;> omega) 10 hs
  exact this rfl
theorem ln_split {l : Ln} (h : okLn l) : Txt.split (lnS l) (Str.ofString " ") = lnW l := split_sp (List.cons_ne_nil _ _) fun y hy => by
  unfold lnW at hy
  rcases List.mem_cons.mp hy with rfl | hy
  · exact h.2.2.2.2.1
  · exact nums_free y hy
theorem lns_split {ls : List Ln} (hne : ls ≠ []) (h : ∀ l ∈ ls, okLn l) : Txt.split (lnsS ls) (Str.ofString "\n") = ls.map lnS := split_join nl_tl (by decide +kernel) (fun z => hne (List.map_eq_nil_iff.mp z)) fun y hy => by
  obtain ⟨l, hm, rfl⟩ := List.mem_map.mp hy
  exact lnS_free (h l hm)
theorem lns_len {ls : List Ln} (h : ∀ l ∈ ls, okLn l) : (lnsS ls).length ≤ ls.length * 2001 := by
  have a := join_len (y := Str.ofString "\n") (L := 2000) (ys := ls.map lnS) fun y hy => by
    obtain ⟨l, hm, rfl⟩ := List.mem_map.mp hy
    obtain ⟨h1, h2, h3, h4, _⟩ := h l hm
    exact lnS_len h1 h2 h3 h4
  rw [List.length_map, show (Str.ofString "\n").length = 1 from by decide +kernel] at a
  unfold lnsS
  omega
theorem flat_head {n p : Nat} : ∀ (ms : List Md) (l : Ln), (ms.flatMap (mdL n p)).head? = some l → l.1 = Str.ofString "mode"
  | [], l, h => nomatch h
  | m :: ms, l, h => by
    rw [List.flatMap_cons] at h
    unfold mdL at h
    rw [List.cons_append, List.head?_cons] at h
    injection h with h
    rw [← h]
theorem rd_read_thing {K : PySem.W.Frag} {CM CT CB CO : Addr} (hT : ThK K CM CT) (ds : List D) (Q E : EQ) (_ : ds.length = 1) (h : g_read_thing CM CT ds Q E) : tb_read_thing K CM CT CB CO (dE Q E) (startD N_read_thing ds) := by
  obtain ⟨n, ps, ms, rfl, ok, q⟩ := h
  have ol := th_okLn ok
  have ll := th_len ok
  obtain ⟨l0, hl0⟩ : ∃ l0 : Ln, (Str.ofString "numbers", [(n : Int)]) = l0 := ⟨_, rfl⟩
  have eL : thL n ps ms = l0 :: (psL ps ++ ms.flatMap (mdL n ps.length)) := by rw [← hl0]; rfl
  have pl : (psL ps).length = ps.length := by unfold psL; rw [List.length_map]
  have tx := lns_split (by rw [eL]; exact List.cons_ne_nil _ _) ol
  have tn := lns_len ol
  have p6 := ok.p6
  have m4 := ok.m4
  generalize hT' : thL n ps ms = L at *
  generalize lnsS L = T at *
  have fw : few ((Txt.split T (Str.ofString "\n")).map D.str) := by rw [tx]; exact few_of (by rw [List.length_map, List.length_map]; omega)
  have r0 : atI (L.map lnD) 0 = some (.lst (.str (Str.ofString "numbers") :: ([(n : Int)].map numS).map .str)) := by
    have e := rows_at0 [] l0 (psL ps ++ ms.flatMap (mdL n ps.length))
    rw [List.nil_append, ← eL, ← hl0] at e
    exact e
  unfold tb_read_thing dE
  walk_at "go"
  rw [tx, List.map_map]
  refine compL_fun (D.str ∘ lnS) lnD L (fun l hm K1 K0 hK => ?_) ?_
  · have es := ln_split (ol l hm)
    obtain ⟨h1, h2, h3, h4, _⟩ := ol l hm
    have b := lnS_len h1 h2 h3 h4
    have fw : few ((Txt.split (lnS l) (Str.ofString " ")).map D.str) := by
      rw [es]
      exact few_of (by unfold lnW; rw [List.length_map, List.length_cons, List.length_map]; omega)
    walk_at "go"
    rw [es]
    exact hK
  walk_at "go"
  rw [r0]
  walk_at "go"
  rw [r0]
  walk_at "go"
  rw [cut_tail]
  refine ⟨[(n : Int)], rfl, fun z hz => by rw [List.mem_singleton.mp hz]; exact okN_small (by have := ok.n3; omega), ?_⟩
  walk_at "go"
  refine ⟨[l0], psL ps, ms.flatMap (mdL n ps.length), Str.ofString "push", ?_, ?_, fun l h => ?_, fun l h => ?_, ?_⟩
  · rw [eL]; rfl
  · rw [List.singleton_append, ← eL]; omega
  · obtain ⟨r, _, rfl⟩ := List.mem_map.mp h
    rfl
  · rw [flat_head ms l h]
    exact ne_mp
  walk_at "go"
  rw [show (psL ps).map (fun l => D.lst ((l.2.map numS).map D.str)) = ps.map (fun q => hdD (Str.ofString "push", [q.1, q.2])) from by unfold psL; rw [List.map_map]; rfl]
  refine compL_fun (fun q => hdD (Str.ofString "push", [q.1, q.2])) pD ps (fun x hx K1 K0 hK => ?_) ?_
  · unfold hdD
    walk_at "go"
    refine ⟨[x.1, x.2], rfl, fun z hz => ?_, ?_⟩
    · rcases List.mem_cons.mp hz with rfl | hz
      · exact (ok.pp x hx).2.1
      rw [List.mem_singleton.mp hz]
      exact (ok.pp x hx).2.2
    walk_at "go"
    exact hK
  walk_at "go"
  refine ⟨fun j ρ => ∃ (k : Nat) (s8 : Sl), k ≤ ms.length ∧ j = ms.length - k ∧ ρ = [.sh (.str T), .sh (.lst (L.map lnD)), .no, .sh (.int n), .sh (.lst (ps.map pD)), .no, .sh (.int ((1 + ps.length + ((ms.take k).flatMap (mdL n ps.length)).length : Nat) : Int)), .ow ((ms.take k).map (mdI CM n ps.length)), s8], ⟨ms.length, 0, .no, Nat.zero_le _, rfl, ?_⟩, ?_⟩
  · rw [List.length_map, List.take_zero, List.flatMap_nil, List.length_nil, show (1 : Int) + (ps.length : Int) = ((1 + ps.length + 0 : Nat) : Int) by omega]
    rfl
  rintro j ρ ⟨k, s8, hk, rfl, rfl⟩
  have LL : L.length = 1 + ps.length + (ms.flatMap (mdL n ps.length)).length := by rw [eL, List.length_cons, List.length_append, pl]; omega
  walk_at "go"
  rw [List.length_map]
  by_cases km : k < ms.length
  · obtain ⟨m, el⟩ : ∃ m, ms[k]'km = m := ⟨_, rfl⟩
    have gk : ms[k]? = some m := by rw [List.getElem?_eq_getElem km, el]
    have okm : okM m := ok.mm m (by rw [← el]; exact List.getElem_mem km)
    have e1 : ms = ms.take k ++ (m :: ms.drop (k + 1)) := by
      rw [← el, List.getElem_cons_drop, List.take_append_drop]
    have eF : ms.flatMap (mdL n ps.length) = (ms.take k).flatMap (mdL n ps.length) ++ (mdL n ps.length m ++ (ms.drop (k + 1)).flatMap (mdL n ps.length)) := by
      conv => lhs; rw [e1, List.flatMap_append, List.flatMap_cons]
    have eL2 : L = (l0 :: (psL ps ++ (ms.take k).flatMap (mdL n ps.length))) ++ (mdL n ps.length m ++ (ms.drop (k + 1)).flatMap (mdL n ps.length)) := by
      rw [eL, eF, List.cons_append, List.append_assoc]
    have al : (l0 :: (psL ps ++ (ms.take k).flatMap (mdL n ps.length))).length = 1 + ps.length + ((ms.take k).flatMap (mdL n ps.length)).length := by rw [List.length_cons, List.length_append, pl]; omega
    have ml : 1 ≤ (mdL n ps.length m).length := by unfold mdL; rw [List.length_cons]; omega
    have eT : (ms.take (k + 1)).flatMap (mdL n ps.length) = (ms.take k).flatMap (mdL n ps.length) ++ mdL n ps.length m := by
      rw [List.take_add_one, gk, List.flatMap_append]
      show _ ++ [m].flatMap _ = _
      rw [List.flatMap_cons, List.flatMap_nil, List.append_nil]
    have eM : (ms.take (k + 1)).map (mdI CM n ps.length) = (ms.take k).map (mdI CM n ps.length) ++ [mdI CM n ps.length m] := by
      rw [List.take_add_one, gk, List.map_append]
      rfl
    have len1 : L.length = (l0 :: (psL ps ++ (ms.take k).flatMap (mdL n ps.length))).length + ((mdL n ps.length m).length + ((ms.drop (k + 1)).flatMap (mdL n ps.length)).length) := by
      rw [eL2, List.length_append, List.length_append]
    rw [decide_eq_true (show ((1 + ps.length + ((ms.take k).flatMap (mdL n ps.length)).length : Nat) : Int) < (L.length : Int) by omega)]
    walk_at "go"
    refine ⟨n, ps.length, m, l0 :: (psL ps ++ (ms.take k).flatMap (mdL n ps.length)), (ms.drop (k + 1)).flatMap (mdL n ps.length), ?_, ok.n1, ok.n3, p6, okm, by rw [← eL2]; omega, fun l h => flat_head _ l h, ?_⟩
    · rw [← eL2, al, List.length_map]
    rw [al]
    walk_at "go"
    rw [← eM]
    refine ⟨few_of (by rw [List.length_map, List.length_take]; omega), ?_⟩
    refine ⟨_, ?_, k + 1, .sh (mdI CM n ps.length m), by omega, rfl, ?_⟩
    · omega
    · rw [eT, List.length_append]
      rw [show 1 + ps.length + (((ms.take k).flatMap (mdL n ps.length)).length + (mdL n ps.length m).length) = 1 + ps.length + ((ms.take k).flatMap (mdL n ps.length)).length + (mdL n ps.length m).length by omega]
  · have km : k = ms.length := by omega
    subst km
    rw [List.take_length]
    rw [decide_eq_false (show ¬ ((1 + ps.length + (ms.flatMap (mdL n ps.length)).length : Nat) : Int) < (L.length : Int) by omega)]
    walk_at "go"
    obtain ⟨t1, t2, t3, t4, t5⟩ := thing_ok (CM := CM) ok.n1 ok.n3 p6 (fun q h => (ok.pp q h).1) ok.m1 (by omega) fun m h => (ok.mm m h).d1
    refine ⟨_, _, _, rfl, t1, t2, t3, ?_⟩
    rw [if_pos t4, if_neg t5]
    exact q
end K92

namespace K92
open PySem PySem.Spec
open PyProof.Rows L2 Dl
open Lp
open TL
theorem pick2 (a b x : Int) : ∃ y, atI [D.int a, D.int b] (x.fmod 2) = some (.int y) ∧ (y = a ∨ y = b) := by
  have h1 := Int.fmod_nonneg_of_pos x (show (0 : Int) < 2 by decide)
  have h2 := Int.fmod_lt_of_pos x (show (0 : Int) < 2 by decide)
  rcases (show x.fmod 2 = 0 ∨ x.fmod 2 = 1 by omega) with e | e <;> rw [e]
  · exact ⟨a, rfl, .inl rfl⟩
  · exact ⟨b, rfl, .inr rfl⟩
theorem rd__law_words (ds : List D) (Q E : EQ) (h1 : ds.length = 1) (h : g__law_words ds Q E) : tb__law_words (dE Q E) (startD N__law_words ds) := rd_show_numbers ds Q E h1 h
theorem rd__law_room_text (ds : List D) (Q E : EQ) (h1 : ds.length = 1) (h : g__law_room_text ds Q E) : tb__law_room_text (dE Q E) (startD N__law_room_text ds) := by
  obtain ⟨n, rs, rfl, n3, hr, q⟩ := h
  exact rd_show_room _ Q E h1 ⟨rs, rfl, fun r hm => ⟨by have := (hr.2 r hm).1; omega, (hr.2 r hm).2⟩, by have := hr.1; omega, q⟩
theorem rd__law_number (ds : List D) (Q E : EQ) (_ : ds.length = 1) (h : g__law_number ds Q E) : tb__law_number (dE Q E) (startD N__law_number ds) := by
  obtain ⟨x, rfl, x0, x1, q⟩ := h
  obtain ⟨y, hy1, hy2⟩ := pick2 1 (0 - 1) (x.fdiv 5)
  have fin : ∀ s : Int, 0 ≤ s → s < 10 ^ 60 → okN (s * y) ∧ mulOk s y := fun s h0 h1 => by
    have bs : bnd 200 s := bnd_of (by omega) (Int.lt_of_lt_of_le h1 (by decide +kernel))
    rcases hy2 with rfl | rfl
    · refine ⟨?_, mul_of bs (show bnd 8 1 from bnd_one (by decide)) (by decide)⟩
      show (s * 1).natAbs < 10 ^ 60
      omega
    · refine ⟨?_, mul_of bs (show bnd 8 (0 - 1) from bnd_of (by decide) (by decide)) (by decide)⟩
      show (s * (0 - 1)).natAbs < 10 ^ 60
      omega
  have e10 : x.fdiv 10 = x / 10 := Int.fdiv_eq_ediv_of_nonneg _ (by decide)
  have m0 := Int.fmod_nonneg_of_pos (x.fdiv 10) (show (0 : Int) < 10 by decide)
  have m1 := Int.fmod_lt_of_pos (x.fdiv 10) (show (0 : Int) < 10 by decide)
  unfold tb__law_number dE
  walk_at "go"
  by_cases c1 : x.fmod 7 = 1
  · rw [decide_eq_true c1]
    walk_at "go"
    rw [decide_eq_false (show ¬ x.fmod 7 = 2 by omega)]
    walk_at "go"
    rw [hy1]
    have a := Int.fmod_nonneg_of_pos (x * 48271) (show (0 : Int) < 100000000000000000000 by decide)
    have b := Int.fmod_lt_of_pos (x * 48271) (show (0 : Int) < 100000000000000000000 by decide)
    obtain ⟨f1, f2⟩ := fin _ a (Int.lt_of_lt_of_le b (by decide +kernel))
    exact ⟨f2, q _ f1⟩
  rw [decide_eq_false c1]
  walk_at "go"
  by_cases c2 : x.fmod 7 = 2
  · rw [decide_eq_true c2]
    walk_at "go"
    rw [hy1]
    have a := Int.fmod_nonneg_of_pos (x * 100000000000000000000000000000000000000000000000000) (show (0 : Int) < 900000000000000000000000000000000000000000000000000000000000 by decide)
    have b := Int.fmod_lt_of_pos (x * 100000000000000000000000000000000000000000000000000) (show (0 : Int) < 900000000000000000000000000000000000000000000000000000000000 by decide)
    obtain ⟨f1, f2⟩ := fin (100000000000000000000000000000000000000000000000000000000000 + (x * 100000000000000000000000000000000000000000000000000).fmod 900000000000000000000000000000000000000000000000000000000000) (by omega) (by omega)
    exact ⟨f2, q _ f1⟩
  · rw [decide_eq_false c2]
    walk_at "go"
    rw [hy1]
    obtain ⟨f1, f2⟩ := fin _ m0 (Int.lt_of_lt_of_le m1 (by decide +kernel))
    exact ⟨f2, q _ f1⟩
theorem getD_ok {ns : List Int} (h : ∀ a ∈ ns, okN a) (j : Nat) : okN (ns.getD j 0) := by
  by_cases hj : j < ns.length
  · rw [List.getD_eq_getElem?_getD, List.getElem?_eq_getElem hj]
    exact h _ (List.getElem_mem hj)
  · rw [List.getD_eq_getElem?_getD, List.getElem?_eq_none (by omega)]
    show (0 : Int).natAbs < 10 ^ 60
    decide +kernel
theorem cut_tab_to {k n : Nat} (F : Nat → Int) (h : n ≤ k) : cut (tabD k F) none (some (n : Int)) = tabD n F := by
  unfold cut
  rw [HT.sIx_nat, HT.sIx_none, Nat.sub_zero, List.drop_zero, tab_len, show min n k = n by omega, take_tab h]
theorem rd__law_leaf (ds : List D) (Q E : EQ) (_ : ds.length = 2) (h : g__law_leaf ds Q E) : tb__law_leaf (dE Q E) (startD N__law_leaf ds) := by
  obtain ⟨c, n, rfl, n1, n3, q⟩ := h
  unfold tb__law_leaf dE
  walk_at "go"
  refine ⟨c, n + 2, rfl, by omega, fun X hX => ?_⟩
  walk_at "go"
  refine compL_gen D.int okN _ (fun e he K1 K0 hK => ?_) fun ys yl yb => ?_
  · obtain ⟨j, _, rfl⟩ := List.mem_map.mp he
    have := hX j
    walk_at "go"
    exact ⟨_, rfl, this.1, this.2, fun y hy => hK y hy⟩
  rw [tab_list, yl, tab_len]
  have yf : ∀ j, okN ((fun j => ys.getD j 0) j) := getD_ok yb
  generalize (fun j => ys.getD j 0) = f at *
  walk_at "go"
  rw [tab_at (show n < n + 2 by omega)]
  walk_at "go"
  rw [show (n : Int) + 1 = ((n + 1 : Nat) : Int) by omega, tab_at (show n + 1 < n + 2 by omega)]
  walk_at "go"
  rw [cut_tab_to f (show n ≤ n + 2 by omega)]
  exact q f _ _ yf (yf _) (yf _)
theorem pickB (a b : D) (x : Int) : (atI [a, b] (x.fmod 2) = some a ∧ atI [b, a] (x.fmod 2) = some b) ∨ (atI [a, b] (x.fmod 2) = some b ∧ atI [b, a] (x.fmod 2) = some a) := by
  have h1 := Int.fmod_nonneg_of_pos x (show (0 : Int) < 2 by decide)
  have h2 := Int.fmod_lt_of_pos x (show (0 : Int) < 2 by decide)
  rcases (show x.fmod 2 = 0 ∨ x.fmod 2 = 1 by omega) with e | e <;> rw [e]
  · exact .inl ⟨rfl, rfl⟩
  · exact .inr ⟨rfl, rfl⟩
abbrev treeB : DS := (dSq (dSet 4 (dCall 2 [] g__law_stream (dCons (dVar 3) (dCons (dC (.int 5)) dNil)))) (dIf (dTest (dOp kLt (dOp kMod (dOp kIx (dVarP 4) (dC (.int 4))) (dC (.int 5))) (dC (.int 2)))) (dSet 2 (dTup (dCons (dC (.str "stopped")) (dCons (dVar 2) (dCons (dCall 1 [] g__law_number (dCons (dOp kIx (dVarP 4) (dC (.int 0))) dNil)) (dCons (dCall 1 [] g__law_number (dCons (dOp kIx (dVarP 4) (dC (.int 1))) dNil)) dNil)))))) (dSq (dSet 5 (dCall 2 [] g__law_leaf (dCons (dOp kDiv (dVarP 3) (dC (.int 7))) (dCons (dVar 1) dNil)))) (dSq (dSet 6 (dCB kTuple (dCons (dFz (dLcN (dSeq (dSl (dVarP 4) dNoPart (dPart (dOp kAdd (dVarP 1) (dC (.int 1)))))) (gNm 7) dYes (dCall 1 [] g__law_number (dCons (dVar 7) dNil)) [7])) dNil))) (dSet 2 (dTup (dCons (dC (.str "parted")) (dCons (dVar 6) (dCons (dOp kIx (dLst (dCons (dVar 2) (dCons (dVar 5) dNil))) (dOp kMod (dOp kIx (dVarP 4) (dC (.int 4))) (dC (.int 2)))) (dCons (dOp kIx (dLst (dCons (dVar 5) (dCons (dVar 2) dNil))) (dOp kMod (dOp kIx (dVarP 4) (dC (.int 4))) (dC (.int 2)))) dNil))))))))))
theorem tree_loop {n : Nat} {d : DE} {a : Sl} (n1 : 1 ≤ n) (n3 : n ≤ 3) : ∀ (cs : List Int) (r : Ru) (i : Nat) (s3 s4 s5 s6 s7 : Sl), cs.length + i ≤ 5 → okR r → r.dep ≤ i → nd r ≤ 1 + 2 * i →
    (∀ (r : Ru) (s3 s4 s5 s6 s7 : Sl), okR r → r.dep ≤ 5 → nd r ≤ 20 → d.nx [a, .sh (.int n), .sh (trD n r), s3, s4, s5, s6, s7]) →
    loopD (gNm 3) treeB d (cs.map .int) [a, .sh (.int n), .sh (trD n r), s3, s4, s5, s6, s7]
  | [], r, i, s3, s4, s5, s6, s7, hl, ro, rd, rc, h => lp_nil (h r _ _ _ _ _ ro (by rw [List.length_nil] at hl; omega) (by rw [List.length_nil] at hl; omega))
  | c :: cs, r, i, s3, s4, s5, s6, s7, hl, ro, rd, rc, h => by
    rw [List.length_cons] at hl
    refine lp_cons ?_
    walk_at "go"
    refine ⟨c, 5, rfl, by decide, fun X hX => ?_⟩
    have h0 := hX 0
    have h1 := hX 1
    walk_at "go"
    by_cases c1 : (X 4).fmod 5 < 2
    · rw [decide_eq_true c1]
      walk_at "go"
      refine ⟨_, rfl, h0.1, h0.2, fun y hy => ?_⟩
      walk_at "go"
      refine ⟨_, rfl, h1.1, h1.2, fun z hz => ?_⟩
      walk_at "go"
      exact tree_loop n1 n3 cs (.sp r y z) (i + 1) _ _ _ _ _ (by omega) ⟨ro, hy, hz⟩ (by show r.dep + 1 ≤ _; omega) (by show nd r + 1 ≤ _; omega) h
    · rw [decide_eq_false c1]
      walk_at "go"
      refine ⟨_, n, rfl, n1, n3, fun f b k o1 o2 o3 => ?_⟩
      walk_at "go"
      rw [show (n : Int) + 1 = ((n + 1 : Nat) : Int) by omega, cut_tab_to X (show n + 1 ≤ 5 by omega)]
      refine compL_gen D.int okN _ (fun e he K1 K0 hK => ?_) fun ys yl yb => ?_
      · obtain ⟨j, _, rfl⟩ := List.mem_map.mp he
        have := hX j
        walk_at "go"
        exact ⟨_, rfl, this.1, this.2, fun y hy => hK y hy⟩
      rw [tab_list, yl, tab_len]
      have yf : ∀ j, okN ((fun j => ys.getD j 0) j) := getD_ok yb
      generalize (fun j => ys.getD j 0) = w at *
      walk_at "go"
      rcases pickB (trD n r) (trD n (.st f b k)) (X 4) with ⟨e1, e2⟩ | ⟨e1, e2⟩
      · rw [e1]
        walk_at "go"
        rw [e2]
        walk_at "go"
        exact tree_loop n1 n3 cs (.pa w r (.st f b k)) (i + 1) _ _ _ _ _ (by omega) ⟨yf, ro, ⟨o1, o2, o3⟩⟩ (by show max r.dep 0 + 1 ≤ _; omega) (by show nd r + 1 + 1 ≤ _; omega) h
      · rw [e1]
        walk_at "go"
        rw [e2]
        walk_at "go"
        exact tree_loop n1 n3 cs (.pa w (.st f b k) r) (i + 1) _ _ _ _ _ (by omega) ⟨yf, ⟨o1, o2, o3⟩, ro⟩ (by show max 0 r.dep + 1 ≤ _; omega) (by show 1 + nd r + 1 ≤ _; omega) h
theorem rd__law_tree (ds : List D) (Q E : EQ) (_ : ds.length = 2) (h : g__law_tree ds Q E) : tb__law_tree (dE Q E) (startD N__law_tree ds) := by
  obtain ⟨ns, n, rfl, n1, n3, q⟩ := h
  have cl : (cut ns (some 1) (some 6)).length ≤ 5 := by
    unfold cut
    rw [List.length_take, List.length_drop, show (1 : Int) = ((1 : Nat) : Int) from rfl, show (6 : Int) = ((6 : Nat) : Int) from rfl, HT.sIx_nat, HT.sIx_nat]
    omega
  unfold tb__law_tree dE
  walk_at "go"
  refine ⟨ns, 0, _, rfl, .inr rfl, ?_⟩
  walk_at "go"
  refine ⟨_, n, rfl, n1, n3, fun f b k o1 o2 o3 => ?_⟩
  walk_at "go"
  rw [cut_map]
  refine tree_loop n1 n3 (cut ns (some 1) (some 6)) (.st f b k) 0 _ _ _ _ _ cl ⟨o1, o2, o3⟩ (Nat.le_refl 0) (Nat.le_refl 1) fun r s3 s4 s5 s6 s7 ro rd rc => ?_
  walk_at "go"
  exact q r ro rc rd
end K92

namespace K92
open PySem PySem.Spec
open PyProof.Rows L2 Dl
open Lp
open TL
theorem rd__law_rule {CS CP CA : Addr} (j : Nat) (ds : List D) (Q E : EQ) (_ : ds.length = 1) (h : g_ruleP CS CP CA (j + 1) ds Q E) : tb__law_rule CS CP CA (g_ruleP CS CP CA j) (dE Q E) (startD N__law_rule ds) := by
  obtain ⟨n, r, rfl, hj, q⟩ := h
  unfold tb__law_rule dE
  match r, hj, q with
  | .st f a d, hj, q =>
    unfold trD
    walk_at "go"
    exact ⟨_, _, _, rfl, kn_lst _, q⟩
  | .sp r lo hi, hj, q =>
    have hj : r.dep + 1 ≤ j := hj
    obtain ⟨j, rfl⟩ : ∃ j', j = j' + 1 := ⟨j - 1, by omega⟩
    unfold trD
    walk_at "go"
    refine ⟨n, r, rfl, by omega, ?_⟩
    walk_at "go"
    exact ⟨_, _, _, rfl, q⟩
  | .pa w r o, hj, q =>
    have hj : max r.dep o.dep + 1 ≤ j := hj
    obtain ⟨j, rfl⟩ : ∃ j', j = j' + 1 := ⟨j - 1, by omega⟩
    unfold trD
    walk_at "go"
    refine ⟨n, r, rfl, by omega, ?_⟩
    walk_at "go"
    refine ⟨n, o, rfl, by omega, ?_⟩
    walk_at "go"
    exact ⟨_, _, _, rfl, q⟩

theorem all4 {α : Type} {P : α → Prop} {a b c e : α} (h1 : P a) (h2 : P b) (h3 : P c) (h4 : P e) : ∀ x ∈ [a, b, c, e], P x := fun x hx => by
  rcases List.mem_cons.mp hx with rfl | hx
  · exact h1
  rcases List.mem_cons.mp hx with rfl | hx
  · exact h2
  rcases List.mem_cons.mp hx with rfl | hx
  · exact h3
  rw [List.mem_singleton.mp hx]
  exact h4
theorem text_join3 (a : Str) (p q : List Str) (hp : p ≠ []) (hq : q ≠ []) : Txt.join (Str.ofString " ") [a, Txt.join (Str.ofString " ") p, Txt.join (Str.ofString " ") q] = Txt.join (Str.ofString " ") (a :: (p ++ q)) := by
  have e := join_join (Str.ofString " ") (ps := [[a], p, q]) (fun z hz => by
    rcases List.mem_cons.mp hz with rfl | hz
    · exact List.cons_ne_nil _ _
    rcases List.mem_cons.mp hz with rfl | hz
    · exact hp
    rw [List.mem_singleton.mp hz]; exact hq)
  rw [List.map_cons, List.map_cons, List.map_cons, List.map_nil, Dl.join_one] at e
  rw [e]
  show Txt.join _ ([a] ++ (p ++ (q ++ []))) = _
  rw [List.append_nil]
  rfl
theorem rd__law_rule_text (j : Nat) (ds : List D) (Q E : EQ) (_ : ds.length = 1) (h : g_textP (j + 1) ds Q E) : tb__law_rule_text (g_textP j) (dE Q E) (startD N__law_rule_text ds) := by
  obtain ⟨n, r, rfl, n3, ok, hn, hj, q⟩ := h
  have hl := ruleS_len n3 ok
  unfold tb__law_rule_text dE
  match r, ok, hn, hj, q, hl with
  | .st f a d, ok, hn, hj, q, hl =>
    rw [ruleS_st] at q hl
    unfold trD
    walk_at "go"
    refine ⟨tabI n f ++ [a, d], _, rfl, .inr ?_, st_ok ok, ?_, ?_⟩
    · rw [List.map_append, tabI_ints]; rfl
    · rw [List.length_append, tabI_len]; show n + 2 ≤ 20; omega
    rw [sapp_len] at hl
    walk_at "go"
    exact q
  | .sp r lo hi, ok, hn, hj, q, hl =>
    have hj : r.dep + 1 ≤ j := hj
    have hn : nd r + 1 ≤ 20 := hn
    obtain ⟨j, rfl⟩ : ∃ j', j = j' + 1 := ⟨j - 1, by omega⟩
    have r1 := ruleS_len n3 ok.1
    have okz : ∀ z ∈ [lo, hi], okN z := fun z hz => by
      rcases List.mem_cons.mp hz with rfl | h1
      · exact ok.2.1
      rw [List.mem_singleton.mp h1]; exact ok.2.2
    have r2 := row_len okz
    unfold trD
    walk_at "go"
    refine ⟨[lo, hi], _, rfl, .inr rfl, okz, Nat.le_of_ble_eq_true rfl, ?_⟩
    walk_at "go"
    refine ⟨n, r, rfl, n3, ok.1, by omega, by omega, ?_⟩
    walk_at "go"
    refine ⟨[Str.ofString "stopped", rowS [lo, hi], ruleS n r], rfl, ?_, ?_⟩
    · show (Str.ofString "stopped").length + ((rowS [lo, hi]).length + ((ruleS n r).length + 0)) + 3 * (Str.ofString " ").length ≤ 16777216
      rw [show (Str.ofString "stopped").length = 7 from by decide +kernel, sp1]
      rw [show ([lo, hi] : List Int).length = 2 from rfl] at r2
      omega
    · rw [show Txt.join (Str.ofString " ") [Str.ofString "stopped", rowS [lo, hi], ruleS n r] = ruleS n (.sp r lo hi) from text_join3 _ ([lo, hi].map numS) (wordsR n r) (List.cons_ne_nil _ _) (wR_ne n r)]
      exact q
  | .pa w r o, ok, hn, hj, q, hl =>
    have hj : max r.dep o.dep + 1 ≤ j := hj
    have hn : nd r + nd o + 1 ≤ 20 := hn
    obtain ⟨j, rfl⟩ : ∃ j', j = j' + 1 := ⟨j - 1, by omega⟩
    have r1 := ruleS_len n3 ok.2.1
    have r3 := ruleS_len n3 ok.2.2
    have r2 := row_len (tabI_ok (n := n + 1) ok.1)
    rw [tabI_len] at r2
    unfold trD
    walk_at "go"
    refine ⟨tabI (n + 1) w, _, rfl, .inl ?_, tabI_ok ok.1, ?_, ?_⟩
    · rw [tabI_ints]; rfl
    · rw [tabI_len]; omega
    walk_at "go"
    refine ⟨n, r, rfl, n3, ok.2.1, by omega, by omega, ?_⟩
    walk_at "go"
    refine ⟨n, o, rfl, n3, ok.2.2, by omega, by omega, ?_⟩
    walk_at "go"
    refine ⟨[Str.ofString "parted", rowS (tabI (n + 1) w), ruleS n r, ruleS n o], rfl, ?_, ?_⟩
    · show (Str.ofString "parted").length + ((rowS (tabI (n + 1) w)).length + ((ruleS n r).length + ((ruleS n o).length + 0))) + 4 * (Str.ofString " ").length ≤ 16777216
      rw [show (Str.ofString "parted").length = 6 from by decide +kernel, sp1]
      omega
    · have hw : (tabI (n + 1) w).map numS ≠ [] := fun z => tabI_ne (Nat.succ_pos n) (List.map_eq_nil_iff.mp z)
      have e := join_join (Str.ofString " ") (ps := [[Str.ofString "parted"], (tabI (n + 1) w).map numS, wordsR n r, wordsR n o]) (all4 (List.cons_ne_nil _ _) hw (wR_ne n r) (wR_ne n o))
      rw [List.map_cons, List.map_cons, List.map_cons, List.map_cons, List.map_nil, Dl.join_one] at e
      rw [show Txt.join (Str.ofString " ") [Str.ofString "parted", rowS (tabI (n + 1) w), ruleS n r, ruleS n o] = ruleS n (.pa w r o) from e.trans (by
        show Txt.join _ ([Str.ofString "parted"] ++ ((tabI (n + 1) w).map numS ++ (wordsR n r ++ (wordsR n o ++ [])))) = _
        rw [List.append_nil]
        rfl)]
      exact q
theorem rd__law_same_rule {K : PySem.W.Frag} {CS CP CA CR : Addr} (hR : RuK K CS CP CA CR) (hS : RsK K CS CP CA) (j : Nat) (ds : List D) (Q E : EQ) (_ : ds.length = 2) (h : g_sameP CS CP CA (j + 1) ds Q E) : tb__law_same_rule K CR CS CP CA (g_sameP CS CP CA j) (dE Q E) (startD N__law_same_rule ds) := by
  obtain ⟨n, r, rfl, hj, q⟩ := h
  unfold tb__law_same_rule dE
  match r, hj, q with
  | .st f a d, hj, q =>
    have k0 := hR.f_Straight_numbers
    have k1 := hR.f_Straight_add
    have k2 := hR.f_Straight_divisor
    have i0 := hR.i_Straight
    have ok1 : (D.tup [.lst (tabD n f), .int a, .int d]).okk 64 = true := by
      unfold D.okk D.okks
      rw [show (D.lst (tabD n f)).okk 63 = true from by unfold D.okk; exact okk_tab 62 n f]
      rfl
    unfold ruD trD Dl.stI
    walk_at "go"
    rw [hR.k_Straight_Rule]
    walk_at "go"
    rw [hS.k_Straight_Straight]
    walk_at "go"
    refine ⟨plain_of ok1, plain_of ok1, ?_⟩
    rw [eqv_self 64 _ ok1]
    exact q
  | .sp r lo hi, hj, q =>
    have hj : r.dep + 1 ≤ j := hj
    obtain ⟨j, rfl⟩ : ∃ j', j = j' + 1 := ⟨j - 1, by omega⟩
    have k0 := hR.f_Stopped_rule
    have k1 := hR.f_Stopped_low
    have k2 := hR.f_Stopped_high
    have i0 := hR.i_Stopped
    have ok1 : (D.tup [.int lo, .int hi]).okk 64 = true := rfl
    unfold ruD trD
    walk_at "go"
    rw [hR.k_Stopped_Rule]
    walk_at "go"
    rw [hS.k_Stopped_Stopped]
    walk_at "go"
    refine ⟨plain_of ok1, plain_of ok1, ?_⟩
    rw [eqv_self 64 _ ok1]
    walk_at "go"
    exact ⟨n, r, rfl, by omega, q⟩
  | .pa w r o, hj, q =>
    have hj : max r.dep o.dep + 1 ≤ j := hj
    obtain ⟨j, rfl⟩ : ∃ j', j = j' + 1 := ⟨j - 1, by omega⟩
    have k0 := hR.f_Parted_rule
    have k1 := hR.f_Parted_row
    have k2 := hR.f_Parted_other
    have i0 := hR.i_Parted
    have ok1 : (rowW (n + 1) w).okk 64 = true := okk_rowW 63 _ _
    unfold ruD trD
    walk_at "go"
    rw [hR.k_Parted_Rule]
    walk_at "go"
    rw [hS.k_Parted_Parted]
    walk_at "go"
    refine ⟨plain_of ok1, plain_of ok1, ?_⟩
    rw [eqv_self 64 _ ok1]
    walk_at "go"
    refine ⟨n, r, rfl, by omega, ?_⟩
    walk_at "go"
    exact ⟨n, o, rfl, by omega, q⟩
end K92

namespace K92
open PySem PySem.Spec
open PyProof.Rows L2 Dl
open Lp
open TL
theorem cut_seg {k a n : Nat} (F : Nat → Int) (h : a + n ≤ k) : cut (tabD k F) (some (a : Int)) (some ((a + n : Nat) : Int)) = tabD n fun j => F (a + j) := by
  unfold cut
  rw [HT.sIx_nat, HT.sIx_nat, tab_len, show min a k = a by omega, show min (a + n) k = a + n by omega, drop_tab, show a + n - a = n by omega, take_tab (show n ≤ k - a by omega)]
  exact tab_congr fun i hi => by rw [Nat.add_comm]
theorem rd__law_rows (ds : List D) (Q E : EQ) (_ : ds.length = 3) (h : g__law_rows ds Q E) : tb__law_rows (dE Q E) (startD N__law_rows ds) := by
  obtain ⟨c, n, m, rfl, n1, n3, m5, q⟩ := h
  unfold tb__law_rows dE
  walk_at "go"
  refine ⟨c, 4 * m, by rw [Int.natCast_mul]; rfl, by omega, fun X hX => ?_⟩
  walk_at "go"
  rw [Int.toNat_natCast, irg0]
  refine compL_gen tupI (fun r => r.length = n + 1 ∧ ∀ z ∈ r, okN z) _ (fun e he K1 K0 hK => ?_) fun rs rl rr => ?_
  · obtain ⟨k, hk, rfl⟩ := List.mem_map.mp he
    have hk := List.mem_range.mp hk
    walk_at "go"
    rw [show 4 * (k : Int) + (n : Int) + 1 = ((4 * k + (n + 1) : Nat) : Int) by omega, show 4 * (k : Int) = ((4 * k : Nat) : Int) by omega, cut_seg X (show 4 * k + (n + 1) ≤ 4 * m by omega)]
    refine compL_gen D.int okN _ (fun e he K1 K0 hK => ?_) fun ys yl yb => ?_
    · obtain ⟨j, _, rfl⟩ := List.mem_map.mp he
      have := hX (4 * k + j)
      walk_at "go"
      exact ⟨_, rfl, this.1, this.2, fun y hy => hK y hy⟩
    rw [tab_len] at yl
    walk_at "go"
    exact hK ys ⟨yl, yb⟩
  rw [List.length_map, List.length_range] at rl
  exact q rs rl rr
theorem okN_mod {z : Int} : okN (1 + ((z.natAbs : Int)).fmod (10 ^ 60 - 1)) ∧ 1 ≤ 1 + ((z.natAbs : Int)).fmod (10 ^ 60 - 1) := by
  have a := Int.fmod_nonneg_of_pos (z.natAbs : Int) (show (0 : Int) < 10 ^ 60 - 1 by decide +kernel)
  have b := Int.fmod_lt_of_pos (z.natAbs : Int) (show (0 : Int) < 10 ^ 60 - 1 by decide +kernel)
  refine ⟨?_, by omega⟩
  show (1 + ((z.natAbs : Int)).fmod (10 ^ 60 - 1)).natAbs < 10 ^ 60
  have : ((10 ^ 60 : Nat) : Int) = 10 ^ 60 := by decide +kernel
  omega
theorem rd__law_parts (ds : List D) (Q E : EQ) (_ : ds.length = 3) (h : g__law_parts ds Q E) : tb__law_parts (dE Q E) (startD N__law_parts ds) := by
  obtain ⟨c, n, p, rfl, n1, n3, p6, q⟩ := h
  unfold tb__law_parts dE
  walk_at "go"
  refine ⟨c, 60, rfl, by decide, fun X hX => ?_⟩
  walk_at "go"
  refine compL_gen D.int okN _ (fun e he K1 K0 hK => ?_) fun ys yl yb => ?_
  · obtain ⟨j, _, rfl⟩ := List.mem_map.mp he
    have := hX j
    walk_at "go"
    exact ⟨_, rfl, this.1, this.2, fun y hy => hK y hy⟩
  rw [tab_list, yl, tab_len]
  have yf : ∀ j, okN ((fun j => ys.getD j 0) j) := getD_ok yb
  generalize (fun j => ys.getD j 0) = N at *
  have z1 := Int.fmod_nonneg_of_pos (X 59) (show (0 : Int) < 4 by decide)
  have z2 := Int.fmod_lt_of_pos (X 59) (show (0 : Int) < 4 by decide)
  obtain ⟨z, ez⟩ := Int.eq_ofNat_of_zero_le z1
  walk_at "go"
  rw [ez]
  rw [Int.toNat_natCast]
  refine compL_rng z (fun k => rowW (n + 1) fun j => N (4 * k + j)) (fun k hk K1 K0 hK => ?_) ?_
  · walk_at "go"
    rw [show 4 * (k : Int) + (n : Int) + 1 = ((4 * k + (n + 1) : Nat) : Int) by omega, show 4 * (k : Int) = ((4 * k : Nat) : Int) by omega, cut_seg N (show 4 * k + (n + 1) ≤ 60 by omega)]
    exact hK
  rw [show (List.range z).map (fun k => rowW (n + 1) fun j => N (4 * k + j)) = ((List.range z).map fun k => fun j => N (4 * k + j)).map (rowW (n + 1)) from by rw [List.map_map]; rfl]
  walk_at "go"
  rw [Int.toNat_natCast]
  refine compL_rng n (fun i => .lst (tabD n fun j => N (12 + 3 * i + j))) (fun i hi K1 K0 hK => ?_) ?_
  · walk_at "go"
    rw [show 12 + 3 * (i : Int) + (n : Int) = ((12 + 3 * i + n : Nat) : Int) by omega, show 12 + 3 * (i : Int) = ((12 + 3 * i : Nat) : Int) by omega, cut_seg N (show 12 + 3 * i + n ≤ 60 by omega)]
    exact hK
  rw [show (List.range n).map (fun i => D.lst (tabD n fun j => N (12 + 3 * i + j))) = lstL n n fun i j => N (12 + 3 * i + j) from rfl]
  walk_at "go"
  rw [Int.toNat_natCast]
  refine compL_rng n (fun i => .lst (tabD p fun j => N (24 + 6 * i + j))) (fun i hi K1 K0 hK => ?_) ?_
  · walk_at "go"
    rw [show 24 + 6 * (i : Int) + (p : Int) = ((24 + 6 * i + p : Nat) : Int) by omega, show 24 + 6 * (i : Int) = ((24 + 6 * i : Nat) : Int) by omega, cut_seg N (show 24 + 6 * i + p ≤ 60 by omega)]
    exact hK
  rw [show (List.range n).map (fun i => D.lst (tabD p fun j => N (24 + 6 * i + j))) = lstL n p fun i j => N (24 + 6 * i + j) from rfl]
  walk_at "go"
  rw [show cut (tabD 60 N) (some (21 : Int)) (some (21 + (n : Int))) = tabD n fun j => N (21 + j) from by rw [show 21 + (n : Int) = ((21 + n : Nat) : Int) by omega]; exact cut_seg N (show 21 + n ≤ 60 by omega)]
  rw [show cut (tabD 60 N) (some (42 : Int)) (some (42 + (n : Int))) = tabD n fun j => N (42 + j) from by rw [show 42 + (n : Int) = ((42 + n : Nat) : Int) by omega]; exact cut_seg N (show 42 + n ≤ 60 by omega)]
  rw [abs_nat]
  obtain ⟨d1, d2⟩ := okN_mod (z := N 58)
  exact q ⟨(List.range z).map (fun k => fun j => N (4 * k + j)), fun i j => N (12 + 3 * i + j), fun j => N (21 + j), fun i j => N (24 + 6 * i + j), fun j => N (42 + j), 1 + ((N 58).natAbs : Int).fmod (10 ^ 60 - 1)⟩
    ⟨by show ((List.range z).map _).length ≤ 3; rw [List.length_map, List.length_range]; omega, fun r hr j => by
      obtain ⟨k, _, rfl⟩ := List.mem_map.mp hr
      exact yf _, fun i j => yf _, fun j => yf _, fun i j => yf _, fun j => yf _, d2, d1⟩
abbrev nwB : DS := (dSq (dSet 13 (dOp kAdd (dOp kAdd (dOp kAdd (dOp kIx (dVarP 6) (dVarP 12)) (dLst (dCons (dOp kIx (dVarP 7) (dVarP 12)) dNil))) (dOp kIx (dVarP 8) (dVarP 12))) (dLst (dCons (dOp kIx (dVarP 9) (dVarP 12)) dNil)))) (dApp 3 (dOp kAdd (dC (.str "next ")) (dCall 1 [] g__law_words (dCons (dVar 13) dNil)))))
theorem nw_loop {n p : Nat} {m : Md} {d : DE} {s0 s1 s2 s4 s5 s10 s11 : Sl} (n3 : n ≤ 3) (p6 : p ≤ 6) (ok : okM m) : ∀ (t k : Nat) (acc : List D) (s12 s13 : Sl), k + t = n → acc.length + t ≤ 400 →
    (∀ s12 s13, d.nx [s0, s1, s2, .ow (acc ++ (List.range' k t).map fun i => .str (lnS (Str.ofString "next", nxI n p m i))), s4, s5, .sh (.lst (lstL n n m.nexts)), .sh (.lst (tabD n m.steer)), .sh (.lst (lstL n p m.push)), .sh (.lst (tabD n m.add)), s10, s11, s12, s13]) →
    loopD (gNm 12) nwB d (irg k t) [s0, s1, s2, .ow acc, s4, s5, .sh (.lst (lstL n n m.nexts)), .sh (.lst (tabD n m.steer)), .sh (.lst (lstL n p m.push)), .sh (.lst (tabD n m.add)), s10, s11, s12, s13]
  | 0, k, acc, s12, s13, _, _, h => lp_r0 (by have h := h s12 s13; rw [List.range'_zero, List.map_nil, List.append_nil] at h; exact h)
  | t + 1, k, acc, s12, s13, hk, hl, h => by
    have kn : k < n := by omega
    have ok1 := nx_ok (n := n) (p := p) ok k
    have l1 := nx_len (n := n) (p := p) (m := m) k
    have l := row_len ok1
    rw [l1] at l
    have e := lnS_eq (Str.ofString "next") (zs := nxI n p m k) (fun z => by rw [z] at l1; rw [List.length_nil] at l1; omega)
    refine lp_rs ?_
    walk_at "go"
    rw [lstL_at kn]
    walk_at "go"
    rw [tab_at kn]
    walk_at "go"
    rw [lstL_at kn]
    walk_at "go"
    rw [tab_at kn]
    walk_at "go"
    refine ⟨nxI n p m k, _, rfl, .inr (by rw [nx_D]), ok1, by rw [l1]; omega, ?_⟩
    have ln : (Str.ofString "next ").length + (rowS (nxI n p m k)).length ≤ 16777216 := by rw [show (Str.ofString "next ").length = 5 from by decide +kernel]; omega
    walk_at "go"
    rw [nx_word, ← e]
    have ih := nw_loop (m := m) (s0 := s0) (s1 := s1) (s2 := s2) (s4 := s4) (s5 := s5) (s10 := s10) (s11 := s11) n3 p6 ok (d := d) t (k + 1) (acc ++ [.str (lnS (Str.ofString "next", nxI n p m k))]) (.sh (.int k)) (.sh (.lst (tabD n (m.nexts k) ++ [D.int (m.steer k)] ++ tabD p (m.push k) ++ [D.int (m.add k)]))) (by omega) (by rw [List.length_append, List.length_singleton]; omega) fun s12 s13 => by
      have h := h s12 s13
      rw [List.range'_succ, List.map_cons] at h
      rw [List.append_assoc]
      exact h
    exact ih
abbrev mtB : DS := (dSq (dApp 3 (dOp kAdd (dC (.str "mode ")) (dCB kStrI (dCons (dVarP 10) dNil)))) (dSq (dOwn 3 (dAddN (dVarP 3) (dFz (dLcN (dSeq (dVar 5)) (gNm 11) dYes (dOp kAdd (dC (.str "row ")) (dCall 1 [] g__law_words (dCons (dVar 11) dNil))) [11])))) (dFor (dRng1 (dVarP 0)) (gNm 12) nwB)))
theorem mt_loop {n p : Nat} {d : DE} {s1 s2 s4 : Sl} (n3 : n ≤ 3) (p6 : p ≤ 6) : ∀ (ms : List Md) (acc : List D) (s5 s6 s7 s8 s9 s10 s11 s12 s13 : Sl), (∀ m ∈ ms, okM m) → acc.length + 7 * ms.length ≤ 200 →
    (∀ s5 s6 s7 s8 s9 s10 s11 s12 s13, d.nx [.sh (.int n), s1, s2, .ow (acc ++ (ms.flatMap (mdL n p)).map fun l => .str (lnS l)), s4, s5, s6, s7, s8, s9, s10, s11, s12, s13]) →
    loopD (gTq 6 (gCs (gNm 5) (gCs (gNm 6) (gCs (gNm 7) (gCs (gNm 8) (gCs (gNm 9) (gCs (gNm 10) gNl))))))) mtB d (ms.map (partsM n p)) [.sh (.int n), s1, s2, .ow acc, s4, s5, s6, s7, s8, s9, s10, s11, s12, s13]
  | [], acc, s5, s6, s7, s8, s9, s10, s11, s12, s13, _, _, h => lp_nil (by have h := h s5 s6 s7 s8 s9 s10 s11 s12 s13; rw [List.flatMap_nil, List.map_nil, List.append_nil] at h; exact h)
  | m :: ms, acc, s5, s6, s7, s8, s9, s10, s11, s12, s13, hm, hl, h => by
    rw [List.length_cons] at hl
    have ok := hm m List.mem_cons_self
    have l7 := mdL_len (p := p) ok n3
    have lg := log_of ok.dv
    have lt := numS_len ok.dv
    have ln : (Str.ofString "mode ").length + (numS m.div).length ≤ 16777216 := by rw [show (Str.ofString "mode ").length = 5 from by decide +kernel]; omega
    have r3 := ok.few
    refine lp_cons ?_
    rw [show partsM n p m = .lst [.lst (m.rows.map (rowW (n + 1))), .lst (lstL n n m.nexts), .lst (tabD n m.steer), .lst (lstL n p m.push), .lst (tabD n m.add), .int m.div] from rfl]
    walk_at "go"
    refine ⟨ln, ?_⟩
    have hf1 : few (acc ++ [D.str (Str.ofString "mode " ++ numS m.div)]) := few_of (by rw [List.length_append, List.length_singleton]; omega)
    refine ⟨hf1, ?_⟩
    walk_at "go"
    refine compL_fun (rowW (n + 1)) (fun r => D.str (lnS (Str.ofString "row", tabI (n + 1) r))) m.rows (fun r hr K1 K0 hK => ?_) ?_
    · have ok := tabI_ok (n := n + 1) (ok.rows r hr)
      have l := row_len ok
      rw [tabI_len] at l
      have e := lnS_eq (Str.ofString "row") (tabI_ne (n := n + 1) (f := r) (Nat.succ_pos _))
      have ln : (Str.ofString "row ").length + (rowS (tabI (n + 1) r)).length ≤ 16777216 := by rw [show (Str.ofString "row ").length = 4 from by decide +kernel]; omega
      walk_at "go"
      refine ⟨tabI (n + 1) r, _, rfl, .inl (by rw [tabI_ints]; rfl), ok, by rw [tabI_len]; omega, ?_⟩
      walk_at "go"
      rw [rw_word, ← e]
      exact hK
    have hf2 : few (acc ++ [D.str (Str.ofString "mode " ++ numS m.div)] ++ m.rows.map fun r => D.str (lnS (Str.ofString "row", tabI (n + 1) r))) := few_of (by rw [List.length_append, List.length_append, List.length_singleton, List.length_map]; omega)
    refine ⟨hf2, ?_⟩
    walk_at "go"
    rw [Int.toNat_natCast]
    refine nw_loop n3 p6 ok n 0 _ _ _ (by omega) (by rw [List.length_append, List.length_append, List.length_singleton, List.length_map]; omega) fun s12 s13 => ?_
    refine mt_loop n3 p6 ms _ _ _ _ _ _ _ _ _ _ (fun x hx => hm x (List.mem_cons_of_mem _ hx)) (by rw [List.length_append, List.length_append, List.length_append, List.length_singleton, List.length_map, List.length_map, List.length_range']; omega) fun s5 s6 s7 s8 s9 s10 s11 s12 s13 => ?_
    have h := h s5 s6 s7 s8 s9 s10 s11 s12 s13
    rw [List.flatMap_cons, List.map_append] at h
    have em : (mdL n p m).map (fun l => D.str (lnS l)) = [D.str (Str.ofString "mode " ++ numS m.div)] ++ (m.rows.map fun r => D.str (lnS (Str.ofString "row", tabI (n + 1) r))) ++ (List.range' 0 n).map fun i => D.str (lnS (Str.ofString "next", nxI n p m i)) := by
      unfold mdL rwL nxL
      rw [List.map_cons, List.map_append, List.map_map, List.map_map, lnS_eq _ (List.cons_ne_nil _ _), ← md_word, ← List.range_eq_range']
      rfl
    rw [em] at h
    simp only [List.append_assoc] at h ⊢
    exact h
theorem rd__law_thing_text (ds : List D) (Q E : EQ) (_ : ds.length = 3) (h : g__law_thing_text ds Q E) : tb__law_thing_text (dE Q E) (startD N__law_thing_text ds) := by
  obtain ⟨n, ps, ms, rfl, ok, q⟩ := h
  have on : okN (n : Int) := okN_small (by have := ok.n3; omega)
  have lg := log_of on
  have lt := numS_len on
  have ln : (Str.ofString "numbers ").length + (numS n).length ≤ 16777216 := by rw [show (Str.ofString "numbers ").length = 8 from by decide +kernel]; omega
  have p6 := ok.p6
  have m4 := ok.m4
  unfold tb__law_thing_text dE
  walk_at "go"
  refine ⟨ln, ?_⟩
  walk_at "go"
  refine compL_fun pD (fun q => D.str (lnS (Str.ofString "push", [q.1, q.2]))) ps (fun x hx K1 K0 hK => ?_) ?_
  · have okz : ∀ z ∈ [x.1, x.2], okN z := fun z hz => by
      rcases List.mem_cons.mp hz with rfl | hz
      · exact (ok.pp x hx).2.1
      rw [List.mem_singleton.mp hz]
      exact (ok.pp x hx).2.2
    have l := row_len okz
    rw [show ([x.1, x.2] : List Int).length = 2 from rfl] at l
    have ln : (Str.ofString "push ").length + (rowS [x.1, x.2]).length ≤ 16777216 := by rw [show (Str.ofString "push ").length = 5 from by decide +kernel]; omega
    walk_at "go"
    refine ⟨[x.1, x.2], _, rfl, .inl rfl, okz, Nat.le_of_ble_eq_true rfl, ?_⟩
    walk_at "go"
    rw [pu_word, ← lnS_eq _ (List.cons_ne_nil _ _)]
    exact hK
  walk_at "go"
  refine mt_loop ok.n3 ok.p6 ms _ _ _ _ _ _ _ _ _ _ ok.mm (by rw [List.length_cons, List.length_map]; omega) fun s5 s6 s7 s8 s9 s10 s11 s12 s13 => ?_
  walk_at "go"
  have e : (thL n ps ms).map (fun l => D.str (lnS l)) = [D.str (Str.ofString "numbers " ++ numS n)] ++ (ps.map fun q => D.str (lnS (Str.ofString "push", [q.1, q.2]))) ++ (ms.flatMap (mdL n ps.length)).map fun l => D.str (lnS l) := by
    unfold thL psL
    rw [List.map_cons, List.map_append, lnS_eq _ (List.cons_ne_nil _ _), ← nu_word, List.map_map]
    rfl
  have b := sum_le (L := 2000) (ys := (thL n ps ms).map lnS) fun y hy => by
    obtain ⟨l, hm, rfl⟩ := List.mem_map.mp hy
    obtain ⟨h1, h2, h3, h4, _⟩ := th_okLn ok l hm
    exact lnS_len h1 h2 h3 h4
  have tl := th_len ok
  rw [List.length_map] at b
  refine ⟨(thL n ps ms).map lnS, ?_, ?_, q⟩
  · rw [List.map_map]
    exact e.symm
  · rw [show (Str.ofString "\n").length = 1 from by decide +kernel, List.length_map]; omega
end K92

namespace K92
open PySem PySem.Spec
open PyProof.Rows L2 Dl
open Lp
open TL
theorem sapp4 (t a b : Str) : Txt.join (Str.ofString " | ") [t, a, b] = t ++ (Str.ofString " | " ++ a ++ Str.ofString " | " ++ b) := by
  rw [join_cons _ _ (List.cons_ne_nil _ _), join_cons _ _ (List.cons_ne_nil _ _), Dl.join_one]
  simp only [sapp]
theorem clm_eq (k : Bool) (t : Int) (r s : List (List Int)) (w : Str) (hw : wdS k ++ Str.ofString " " = w) : w ++ numS t ++ (Str.ofString " | " ++ roomS r ++ Str.ofString " | " ++ roomS s) = clmS (wdS k) t r s := by
  unfold clmS
  rw [sapp4, hw]
theorem tups_ok (rs : List (List Int)) : (tups rs).okk 63 = true := by
  unfold tups D.okk
  refine okks_all fun d hd => ?_
  obtain ⟨r, _, rfl⟩ := List.mem_map.mp hd
  unfold tupI D.okk
  exact okk_ints _ _
theorem clm_ok (r s : List (List Int)) (t : Int) : (D.tup [tups r, tups s, .int t]).okk 64 = true := by
  unfold D.okk D.okks D.okks D.okks D.okks
  rw [tups_ok, tups_ok]
  rfl
theorem rd__law_claims {K : PySem.W.Frag} {CS CC CL : Addr} (hK : ScK K CS CC CL) (ds : List D) (Q E : EQ) (_ : ds.length = 2) (h : g__law_claims ds Q E) : tb__law_claims K CS CC CL (dE Q E) (startD N__law_claims ds) := by
  obtain ⟨a, n, rfl, n1, n3, q⟩ := h
  have k1 := hK.f_Settles_start
  have k2 := hK.f_Settles_rows
  have k3 := hK.f_Settles_turn
  have k4 := hK.f_Comes_start
  have k5 := hK.f_Comes_goal
  have k6 := hK.f_Comes_turns
  have i1 := hK.i_Settles
  have i2 := hK.i_Comes
  unfold tb__law_claims dE
  walk_at "go"
  refine ⟨a, 7, _, rfl, .inl rfl, ?_⟩
  walk_at "go"
  generalize a.getD 7 0 = c
  have c1 := Int.fmod_nonneg_of_pos c (show (0 : Int) < 5 by decide)
  have c2 := Int.fmod_lt_of_pos c (show (0 : Int) < 5 by decide)
  obtain ⟨m, em⟩ := Int.eq_ofNat_of_zero_le c1
  have d1 := Int.fmod_nonneg_of_pos (c.fdiv 5) (show (0 : Int) < 5 by decide)
  have d2 := Int.fmod_lt_of_pos (c.fdiv 5) (show (0 : Int) < 5 by decide)
  obtain ⟨m2, em2⟩ := Int.eq_ofNat_of_zero_le d1
  rw [em]
  refine ⟨_, n, m, rfl, n1, n3, by omega, fun r rl rr => ?_⟩
  walk_at "go"
  rw [em2]
  refine ⟨_, n, m2, rfl, n1, n3, by omega, fun s sl ss => ?_⟩
  have hr : okRw n r := ⟨by omega, rr⟩
  have hs : okRw n s := ⟨by omega, ss⟩
  have l1 := roomS_len n3 hr
  have l2 := roomS_len n3 hs
  walk_at "go"
  refine ⟨_, rfl, Int.fmod_nonneg_of_pos _ (by decide), Int.fmod_lt_of_pos _ (by decide), fun z oz => ?_⟩
  walk_at "go"
  rw [abs_nat]
  obtain ⟨t, ht⟩ : ∃ t : Int, (z.natAbs : Int) = t := ⟨_, rfl⟩
  rw [ht]
  have t0 : 0 ≤ t := by omega
  have ot : okN t := by
    have oz : z.natAbs < 10 ^ 60 := oz
    show t.natAbs < 10 ^ 60
    omega
  have lg := log_of ot
  have lt := numS_len ot
  refine ⟨n, r, rfl, n3, hr, ?_⟩
  have b0 : (Str.ofString " | ").length = 3 := by decide +kernel
  have b1 := sapp_len (Str.ofString " | ") (roomS r)
  have b2 := sapp_len (Str.ofString " | " ++ roomS r) (Str.ofString " | ")
  have b3 := sapp_len (Str.ofString " | " ++ roomS r ++ Str.ofString " | ") (roomS s)
  have f1 : (Str.ofString " | ").length + (roomS r).length ≤ 16777216 := by omega
  have f2 : (Str.ofString " | " ++ roomS r).length + (Str.ofString " | ").length ≤ 16777216 := by omega
  have f3 : (Str.ofString " | " ++ roomS r ++ Str.ofString " | ").length + (roomS s).length ≤ 16777216 := by omega
  walk_at "go"
  refine ⟨n, s, rfl, n3, hs, ?_⟩
  walk_at "go"
  refine ⟨_, _, _, rfl, ?_⟩
  have e1 := clm_eq true t r s (Str.ofString "settles ") (by decide +kernel)
  have e2 := clm_eq false t r s (Str.ofString "comes ") (by decide +kernel)
  have w1 : (Str.ofString "settles ").length + (numS t).length ≤ 16777216 := by rw [show (Str.ofString "settles ").length = 8 from by decide +kernel]; omega
  have w2 : (Str.ofString "comes ").length + (numS t).length ≤ 16777216 := by rw [show (Str.ofString "comes ").length = 6 from by decide +kernel]; omega
  have w3 : (Str.ofString "settles " ++ numS t).length + (Str.ofString " | " ++ roomS r ++ Str.ofString " | " ++ roomS s).length ≤ 16777216 := by rw [sapp_len, show (Str.ofString "settles ").length = 8 from by decide +kernel]; omega
  have w4 : (Str.ofString "comes " ++ numS t).length + (Str.ofString " | " ++ roomS r ++ Str.ofString " | " ++ roomS s).length ≤ 16777216 := by rw [sapp_len, show (Str.ofString "comes ").length = 6 from by decide +kernel]; omega
  have ok1 := clm_ok r s t
  generalize Str.ofString " | " ++ roomS r ++ Str.ofString " | " ++ roomS s = RS at *
  walk_at "go"
  refine ⟨true, n, t, r, s, rfl, n3, hr, hs, ot, ?_⟩
  walk_at "go"
  refine ⟨w1, ?_⟩
  walk_at "go"
  refine ⟨w3, ?_⟩
  rw [show Str.ofString "settles " ++ Str.ofString (toString t) ++ RS = clmS (wdS true) t r s from e1]
  walk_at "go"
  rw [decide_eq_true rfl]
  walk_at "go"
  refine ⟨w1, ?_⟩
  walk_at "go"
  refine ⟨w3, ?_⟩
  rw [show Str.ofString "settles " ++ Str.ofString (toString t) ++ RS = clmS (wdS true) t r s from e1]
  walk_at "go"
  refine ⟨true, n, t, r, s, rfl, n3, hr, hs, ot, t0, ?_⟩
  rw [show clmD CS CC true t r s = .ins CS (stlF (tups r) (tups s) (.int t)) from rfl]
  walk_at "go"
  rw [hK.k_Settles_Settles]
  walk_at "go"
  rw [hK.k_Settles_Comes]
  walk_at "go"
  rw [hK.k_Settles_Claim]
  walk_at "go"
  refine ⟨plain_of ok1, plain_of ok1, ?_⟩
  rw [eqv_self 64 _ ok1]
  walk_at "go"
  refine ⟨_, _, _, rfl, ?_⟩
  walk_at "go"
  refine ⟨false, n, t, r, s, rfl, n3, hr, hs, ot, ?_⟩
  walk_at "go"
  refine ⟨w2, ?_⟩
  walk_at "go"
  refine ⟨w4, ?_⟩
  rw [show Str.ofString "comes " ++ Str.ofString (toString t) ++ RS = clmS (wdS false) t r s from e2]
  walk_at "go"
  rw [decide_eq_true rfl]
  walk_at "go"
  refine ⟨w2, ?_⟩
  walk_at "go"
  refine ⟨w4, ?_⟩
  rw [show Str.ofString "comes " ++ Str.ofString (toString t) ++ RS = clmS (wdS false) t r s from e2]
  walk_at "go"
  refine ⟨false, n, t, r, s, rfl, n3, hr, hs, ot, t0, ?_⟩
  rw [show clmD CS CC false t r s = .ins CC (cmcF (tups r) (tups s) (.int t)) from rfl]
  walk_at "go"
  rw [hK.k_Comes_Comes]
  walk_at "go"
  rw [hK.k_Comes_Settles]
  walk_at "go"
  refine ⟨plain_of ok1, plain_of ok1, ?_⟩
  rw [eqv_self 64 _ ok1]
  exact q
abbrev endB : DS := (dSq (dSet 6 (dLc (dSeq (dCall 2 [] g__law_stream (dCons (dOp kAdd (dOp kDiv (dVarP 2) (dC (.int 7))) (dVarP 5)) (dCons (dC (.int 2)) dNil)))) (gNm 7) dYes (dCall 1 [] g__law_number (dCons (dVar 7) dNil)) [7])) (dApp 4 (dTup (dCons (dCB kMinL (dCons (dVarP 6) dNil)) (dCons (dCB kMaxL (dCons (dVarP 6) dNil)) dNil)))))
theorem end_loop {c : Int} {d : DE} {s0 s1 s3 s8 s9 s10 s11 s12 s13 s14 : Sl} : ∀ (t k : Nat) (acc : List (Int × Int)) (s5 s6 s7 : Sl), (∀ q ∈ acc, q.1 ≤ q.2 ∧ okN q.1 ∧ okN q.2) → acc.length + t ≤ 6 →
    (∀ (ps : List (Int × Int)) (s5 s6 s7 : Sl), ps.length = acc.length + t → (∀ q ∈ ps, q.1 ≤ q.2 ∧ okN q.1 ∧ okN q.2) → d.nx [s0, s1, .sh (.int c), s3, .ow (ps.map pD), s5, s6, s7, s8, s9, s10, s11, s12, s13, s14]) →
    loopD (gNm 5) endB d (irg k t) [s0, s1, .sh (.int c), s3, .ow (acc.map pD), s5, s6, s7, s8, s9, s10, s11, s12, s13, s14]
  | 0, k, acc, s5, s6, s7, ha, hl, h => lp_r0 (h acc _ _ _ (by omega) ha)
  | t + 1, k, acc, s5, s6, s7, ha, hl, h => by
    refine lp_rs ?_
    walk_at "go"
    refine ⟨_, 2, rfl, by decide, fun X hX => ?_⟩
    walk_at "go"
    have h0 := hX 0
    have h1 := hX 1
    refine compL_gen D.int okN _ (fun e he K1 K0 hK => ?_) fun ys yl yb => ?_
    · obtain ⟨j, _, rfl⟩ := List.mem_map.mp he
      have := hX j
      walk_at "go"
      exact ⟨_, rfl, this.1, this.2, fun y hy => hK y hy⟩
    rw [tab_len] at yl
    match ys, yl, yb with
    | [y, z], _, yb =>
      have oy := yb y List.mem_cons_self
      have oz := yb z (List.mem_cons_of_mem _ List.mem_cons_self)
      walk_at "go"
      intro m hm mle
      have om : okN m := yb m hm
      walk_at "go"
      intro M hM Mge
      have oM : okN M := yb M hM
      walk_at "go"
      have hf : few (acc.map pD ++ [pD (m, M)]) := few_of (by rw [List.length_append, List.length_map, List.length_singleton]; omega)
      rw [show acc.map pD ++ [D.tup [.int m, .int M]] = (acc ++ [(m, M)]).map pD from by rw [List.map_append]; rfl]
      refine end_loop t (k + 1) (acc ++ [(m, M)]) _ _ _ (fun q hq => ?_) (by rw [List.length_append, List.length_singleton]; omega) fun ps s5 s6 s7 pl pp => h ps _ _ _ (by rw [List.length_append, List.length_singleton] at pl; omega) pp
      rcases List.mem_append.mp hq with hq | hq
      · exact ha q hq
      rw [List.mem_singleton.mp hq]
      exact ⟨mle M hM, om, oM⟩
theorem rd__law_things {K : PySem.W.Frag} {CM CT CB CO : Addr} (hT : ThK K CM CT) (hH : TtK K CT) (ds : List D) (Q E : EQ) (_ : ds.length = 2) (h : g__law_things ds Q E) : tb__law_things K CT CM CB CO (dE Q E) (startD N__law_things ds) := by
  obtain ⟨a, n, rfl, n1, n3, q⟩ := h
  have k1 := hT.f_Mode_rows
  have k2 := hT.f_Mode_nexts
  have k3 := hT.f_Mode_steer
  have k4 := hT.f_Mode_push
  have k5 := hT.f_Mode_add
  have k6 := hT.f_Mode_divisor
  have k7 := hT.f_Thing_many
  have i0 := hT.i_Thing
  unfold tb__law_things dE
  walk_at "go"
  refine ⟨a, 8, _, rfl, .inl rfl, ?_⟩
  walk_at "go"
  generalize a.getD 8 0 = c
  have c1 := Int.fmod_nonneg_of_pos c (show (0 : Int) < 7 by decide)
  have c2 := Int.fmod_lt_of_pos c (show (0 : Int) < 7 by decide)
  obtain ⟨w, ew⟩ := Int.eq_ofNat_of_zero_le c1
  have d1 := Int.fmod_nonneg_of_pos (c.fdiv 7) (show (0 : Int) < 4 by decide)
  have d2 := Int.fmod_lt_of_pos (c.fdiv 7) (show (0 : Int) < 4 by decide)
  obtain ⟨z, ez⟩ := Int.eq_ofNat_of_zero_le (show 0 ≤ 1 + (c.fdiv 7).fmod 4 by omega)
  rw [ew]
  refine ⟨by omega, by omega, ?_⟩
  rw [Int.toNat_natCast]
  refine end_loop w 0 [] _ _ _ (fun q hq => nomatch hq) (by rw [List.length_nil]; omega) fun ps s5 s6 s7 pl pp => ?_
  rw [List.length_nil, Nat.zero_add] at pl
  subst pl
  walk_at "go"
  rw [ez]
  rw [Int.toNat_natCast, irg0]
  refine compL_gen (partsM n ps.length) okM _ (fun e he K1 K0 hK => ?_) fun ms ml mm => ?_
  · obtain ⟨j, hj, rfl⟩ := List.mem_map.mp he
    walk_at "go"
    refine ⟨a, 9 + j, _, by rw [Int.natCast_add]; rfl, .inl rfl, ?_⟩
    walk_at "go"
    exact ⟨_, n, _, rfl, n1, n3, by omega, fun m om => hK m om⟩
  rw [List.length_map, List.length_range] at ml
  have okt : okTh n ps ms := ⟨n1, n3, by omega, pp, fun z => by rw [z, List.length_nil] at ml; omega, by omega, mm⟩
  obtain ⟨t1, t2, t3, t4, t5⟩ := thing_ok (CM := CM) okt.n1 okt.n3 okt.p6 (fun q h => (okt.pp q h).1) okt.m1 (by omega) fun m h => (okt.mm m h).d1
  walk_at "go"
  refine compL_fun (partsM n ps.length) (mdI CM n ps.length) ms (fun m hm K1 K0 hK => ?_) ?_
  · unfold partsM
    walk_at "go"
    exact ⟨_, _, _, _, _, _, rfl, ko_rows _ _, ko_lstL n n m.nexts, ko_tab n m.steer, ko_lstL n _ m.push, ko_tab n m.add, hK⟩
  walk_at "go"
  refine ⟨_, _, _, rfl, t1, t2, t3, ?_⟩
  rw [if_pos t4, if_neg t5]
  rw [show D.ins CT (thF (.int n) (.lst (ps.map pD)) (.lst (ms.map (mdI CM n ps.length)))) = thI CT n ps (ms.map (mdI CM n ps.length)) from rfl]
  walk_at "go"
  refine ⟨n, ps, ms, rfl, okt, ?_⟩
  walk_at "go"
  refine ⟨n, ps, ms, rfl, okt, ?_⟩
  walk_at "go"
  rw [decide_eq_true rfl]
  walk_at "go"
  refine ⟨n, ps, ms, rfl, okt, ?_⟩
  unfold thI
  walk_at "go"
  rw [hH.k_Thing_Thing]
  walk_at "go"
  rw [decide_eq_true rfl]
  walk_at "go"
  refine ⟨_, _, _, rfl, ?_⟩
  have ok1 : (D.lst (ps.map pD)).okk 64 = true := by
    unfold D.okk
    refine okks_all fun d hd => ?_
    obtain ⟨q, _, rfl⟩ := List.mem_map.mp hd
    rfl
  walk_at "go"
  refine ⟨plain_of ok1, plain_of ok1, ?_⟩
  rw [eqv_self 64 _ ok1]
  walk_at "go"
  refine ⟨n, ps, ms, rfl, okt, ?_⟩
  walk_at "go"
  rw [decide_eq_true rfl]
  walk_at "go"
  refine ⟨_, _, _, rfl, ?_⟩
  walk_at "go"
  refine compL_fun (mdI CM n ps.length) (partsM n ps.length) ms (fun m hm K1 K0 hK => ?_) ?_
  · unfold mdI
    walk_at "go"
    exact hK
  have ok2 : (D.lst (ms.map (partsM n ps.length))).okk 64 = true := by
    unfold D.okk
    refine okks_all fun d hd => ?_
    obtain ⟨m, _, rfl⟩ := List.mem_map.mp hd
    have o1 : (D.lst (m.rows.map (rowW (n + 1)))).okk 62 = true := by
      unfold D.okk
      refine okks_all fun d hd => ?_
      obtain ⟨r, _, rfl⟩ := List.mem_map.mp hd
      exact okk_rowW 60 _ _
    have o2 : ∀ (w : Nat) (R : Mat), (D.lst (lstL n w R)).okk 62 = true := fun w R => by
      unfold D.okk
      refine okks_all fun d hd => ?_
      obtain ⟨i, _, rfl⟩ := List.mem_map.mp hd
      exact okk_tabL' 60 _ _
    have o3 : ∀ F : Nat → Int, (D.lst (tabD n F)).okk 62 = true := fun F => okk_tabL' 61 _ _
    unfold partsM D.okk D.okks D.okks D.okks D.okks D.okks D.okks D.okks
    rw [o1, o2, o3, o2, o3]
    rfl
  walk_at "go"
  refine ⟨plain_of ok2, plain_of ok2, ?_⟩
  rw [eqv_self 64 _ ok2]
  exact q
end K92

namespace K92
open PySem PySem.Spec
open PyProof.Rows L2 Dl
open Lp
/-- a def that calls itself: by how deep its data lie -/
theorem rec_ok {P : Program} {w : World} {K : PySem.W.Frag} {mg : Str → Option Value} {base : Heap} {f : Addr} {fd : FuncData} {ps : List Str} {n c : Nat} {G : Nat → DF} (h0 : G 0 = fun _ _ _ => False)
    (step : ∀ (j kk : Nat), c ≤ kk → FnOk P w K mg base (L2.CX P w) kk f fd ps (spD K n (G j)) → FnOk P w K mg base (L2.CX P w) (kk + 1) f fd ps (spD K n (G (j + 1)))) : ∀ j, FnOk P w K mg base (L2.CX P w) (c + j) f fd ps (spD K n (G j))
  | 0 => by
    rw [h0]
    refine ⟨fun vs H Q E h => ?_, fun A outer s H args us vs Q E hr e0 hb hv h => ?_⟩
    · obtain ⟨_, _, _, _, _, _, _, z, _⟩ := h
      exact z.elim
    · obtain ⟨_, _, _, _, _, _, _, z, _⟩ := h
      exact z.elim
  | j + 1 => step j (c + j) (Nat.le_add_right _ _) (rec_ok h0 step j)
theorem cells_cut (a : List Int) (lo hi : Option Int) : cut (a.map D.int) lo hi = (cut a lo hi).map D.int := cut_map _ _ _ _
theorem rd_law {CS CP CA : Addr} (ds : List D) (Q E : EQ) (_ : ds.length = 1) (h : gLaw 63 ds Q E) : tb_law CS CP CA (dE Q E) (startD N_law ds) := by
  obtain ⟨a, rfl, hl, hba, q⟩ := h
  unfold tb_law dE
  walk_at "go"
  refine ⟨a, 0, _, rfl, .inl rfl, ?_⟩
  walk_at "go"
  have c1 := Int.fmod_nonneg_of_pos (a.getD 0 0) (show (0 : Int) < 3 by decide)
  have c2 := Int.fmod_lt_of_pos (a.getD 0 0) (show (0 : Int) < 3 by decide)
  obtain ⟨n, hn⟩ := Int.eq_ofNat_of_zero_le (show 0 ≤ 1 + (a.getD 0 0).fmod 3 by omega)
  have n1 : 1 ≤ n := by omega
  have n3 : n ≤ 3 := by omega
  rw [hn]
  refine ⟨a, 0, _, rfl, .inl rfl, ?_⟩
  walk_at "go"
  rw [cells_cut]
  refine ⟨_, n, rfl, n1, n3, fun r ro rd rp => ?_⟩
  walk_at "go"
  refine ⟨n, r, rfl, n3, ro, rd, by omega, ?_⟩
  walk_at "go"
  refine ⟨n, r, rfl, by omega, ?_⟩
  walk_at "go"
  refine ⟨n, r, rfl, n3, ro, rd, by omega, ?_⟩
  walk_at "go"
  rw [decide_eq_true rfl]
  walk_at "go"
  refine ⟨n, r, rfl, n3, ro, rd, by omega, ?_⟩
  walk_at "go"
  refine ⟨n, r, rfl, by omega, ?_⟩
  walk_at "go"
  refine ⟨a, n, rfl, n1, n3, ?_⟩
  walk_at "go"
  exact ⟨a, n, rfl, n1, n3, q⟩
end K92

end
namespace K92
open PySem PySem.Spec
open PyProof.Rows L2 Dl
theorem al1 {fd : FuncData} {ps : List Str} (h : ∀ a0 : Value, bindArgs fd ⟨[a0], []⟩ = pure (ps.zip [a0])) : ∀ us : List Value, us.length = 1 → bindArgs fd ⟨us, []⟩ = pure (ps.zip us)
  | [_], _ => h _
theorem al2 {fd : FuncData} {ps : List Str} (h : ∀ a0 a1 : Value, bindArgs fd ⟨[a0, a1], []⟩ = pure (ps.zip [a0, a1])) : ∀ us : List Value, us.length = 2 → bindArgs fd ⟨us, []⟩ = pure (ps.zip us)
  | [_, _], _ => h _ _
theorem al3 {fd : FuncData} {ps : List Str} (h : ∀ a0 a1 a2 : Value, bindArgs fd ⟨[a0, a1, a2], []⟩ = pure (ps.zip [a0, a1, a2])) : ∀ us : List Value, us.length = 3 → bindArgs fd ⟨us, []⟩ = pure (ps.zip us)
  | [_, _, _], _ => h _ _ _
theorem al4 {fd : FuncData} {ps : List Str} (h : ∀ a0 a1 a2 a3 : Value, bindArgs fd ⟨[a0, a1, a2, a3], []⟩ = pure (ps.zip [a0, a1, a2, a3])) : ∀ us : List Value, us.length = 4 → bindArgs fd ⟨us, []⟩ = pure (ps.zip us)
  | [_, _, _, _], _ => h _ _ _ _
theorem al7 {fd : FuncData} {ps : List Str} (h : ∀ a0 a1 a2 a3 a4 a5 a6 : Value, bindArgs fd ⟨[a0, a1, a2, a3, a4, a5, a6], []⟩ = pure (ps.zip [a0, a1, a2, a3, a4, a5, a6])) : ∀ us : List Value, us.length = 7 → bindArgs fd ⟨us, []⟩ = pure (ps.zip us)
  | [_, _, _, _, _, _, _], _ => h _ _ _ _ _ _ _
theorem all_mk {l : PySem.W.OpenLaw} {w : World} {K : PySem.W.Frag} {h : Heap} {mg : Str → Option Value} {fa f0 f1 f2 f3 f4 f5 f6 f7 f8 f9 f10 f11 f12 f13 f14 f15 f16 f17 f18 f19 f20 f21 f22 f23 f24 f25 f26 f27 f28 f29 f30 f31 f32 f33 f34 f35 f36 f37 f38 f39 f40 f41 f42 f43 f44 f45 f46 f47 f48 f49 f50 C_BadThing C_TooMany C_Claim C_Settles C_Comes C_Mode C_Thing C_Rule C_Straight C_Stopped C_Parted : Addr} (X : K.In h) (G : h.Ns mainGlobals mg) (hfa : mg "law" = some (.ref fa))
    {dT0 : Addr} {tc0 : Value} {td0 : Option Addr} {tn0 : Nat} {ts0 : Array (Option Value)} {tk0_0 : Tok}
    {oc0 kV0 doc0 pm0 cd0 ct0 : Value} {od0 an0 : Option Addr} {sl0 : Array (Option Value)}
    {oc1 kV1 doc1 pm1 cd1 ct1 : Value} {od1 an1 : Option Addr} {sl1 : Array (Option Value)}
    {oc2 kV2 doc2 pm2 cd2 ct2 : Value} {od2 an2 : Option Addr} {sl2 : Array (Option Value)}
    {oc3 kV3 doc3 pm3 cd3 ct3 : Value} {od3 an3 : Option Addr} {sl3 : Array (Option Value)}
    {oc4 kV4 doc4 pm4 cd4 ct4 : Value} {od4 an4 : Option Addr} {sl4 : Array (Option Value)}
    {oc5 kV5 doc5 pm5 cd5 ct5 : Value} {od5 an5 : Option Addr} {sl5 : Array (Option Value)}
    {oc6 kV6 doc6 pm6 cd6 ct6 : Value} {od6 an6 : Option Addr} {sl6 : Array (Option Value)}
    {oc7 kV7 doc7 pm7 cd7 ct7 : Value} {od7 an7 : Option Addr} {sl7 : Array (Option Value)}
    {oc8 kV8 doc8 pm8 cd8 ct8 : Value} {od8 an8 : Option Addr} {sl8 : Array (Option Value)}
    {oc9 kV9 doc9 pm9 cd9 ct9 : Value} {od9 an9 : Option Addr} {sl9 : Array (Option Value)}
    {oc10 kV10 doc10 pm10 cd10 ct10 : Value} {od10 an10 : Option Addr} {sl10 : Array (Option Value)}
    {oc11 kV11 doc11 pm11 cd11 ct11 : Value} {od11 an11 : Option Addr} {sl11 : Array (Option Value)}
    {oc12 kV12 doc12 pm12 cd12 ct12 : Value} {od12 an12 : Option Addr} {sl12 : Array (Option Value)}
    {oc13 kV13 doc13 pm13 cd13 ct13 : Value} {od13 an13 : Option Addr} {sl13 : Array (Option Value)}
    {oc14 kV14 doc14 pm14 cd14 ct14 : Value} {od14 an14 : Option Addr} {sl14 : Array (Option Value)}
    {dT15 : Addr} {tc15 : Value} {td15 : Option Addr} {tn15 : Nat} {ts15 : Array (Option Value)} {tk15_0 : Tok}
    {oc15 kV15 doc15 pm15 cd15 ct15 : Value} {od15 an15 : Option Addr} {sl15 : Array (Option Value)}
    {oc16 kV16 doc16 pm16 cd16 ct16 : Value} {od16 an16 : Option Addr} {sl16 : Array (Option Value)}
    {oc17 kV17 doc17 pm17 cd17 ct17 : Value} {od17 an17 : Option Addr} {sl17 : Array (Option Value)}
    {oc18 kV18 doc18 pm18 cd18 ct18 : Value} {od18 an18 : Option Addr} {sl18 : Array (Option Value)}
    {oc19 kV19 doc19 pm19 cd19 ct19 : Value} {od19 an19 : Option Addr} {sl19 : Array (Option Value)}
    {oc20 kV20 doc20 pm20 cd20 ct20 : Value} {od20 an20 : Option Addr} {sl20 : Array (Option Value)}
    {oc21 kV21 doc21 pm21 cd21 ct21 : Value} {od21 an21 : Option Addr} {sl21 : Array (Option Value)}
    {oc22 kV22 doc22 pm22 cd22 ct22 : Value} {od22 an22 : Option Addr} {sl22 : Array (Option Value)}
    {oc23 kV23 doc23 pm23 cd23 ct23 : Value} {od23 an23 : Option Addr} {sl23 : Array (Option Value)}
    {oc24 kV24 doc24 pm24 cd24 ct24 : Value} {od24 an24 : Option Addr} {sl24 : Array (Option Value)}
    {oc25 kV25 doc25 pm25 cd25 ct25 : Value} {od25 an25 : Option Addr} {sl25 : Array (Option Value)}
    {oc26 kV26 doc26 pm26 cd26 ct26 : Value} {od26 an26 : Option Addr} {sl26 : Array (Option Value)}
    {oc27 kV27 doc27 pm27 cd27 ct27 : Value} {od27 an27 : Option Addr} {sl27 : Array (Option Value)}
    {oc28 kV28 doc28 pm28 cd28 ct28 : Value} {od28 an28 : Option Addr} {sl28 : Array (Option Value)}
    {oc29 kV29 doc29 pm29 cd29 ct29 : Value} {od29 an29 : Option Addr} {sl29 : Array (Option Value)}
    {oc30 kV30 doc30 pm30 cd30 ct30 : Value} {od30 an30 : Option Addr} {sl30 : Array (Option Value)}
    {oc31 kV31 doc31 pm31 cd31 ct31 : Value} {od31 an31 : Option Addr} {sl31 : Array (Option Value)}
    {oc32 kV32 doc32 pm32 cd32 ct32 : Value} {od32 an32 : Option Addr} {sl32 : Array (Option Value)}
    {oc33 kV33 doc33 pm33 cd33 ct33 : Value} {od33 an33 : Option Addr} {sl33 : Array (Option Value)}
    {oc34 kV34 doc34 pm34 cd34 ct34 : Value} {od34 an34 : Option Addr} {sl34 : Array (Option Value)}
    {oc35 kV35 doc35 pm35 cd35 ct35 : Value} {od35 an35 : Option Addr} {sl35 : Array (Option Value)}
    {oc36 kV36 doc36 pm36 cd36 ct36 : Value} {od36 an36 : Option Addr} {sl36 : Array (Option Value)}
    {oc37 kV37 doc37 pm37 cd37 ct37 : Value} {od37 an37 : Option Addr} {sl37 : Array (Option Value)}
    {oc38 kV38 doc38 pm38 cd38 ct38 : Value} {od38 an38 : Option Addr} {sl38 : Array (Option Value)}
    {oc39 kV39 doc39 pm39 cd39 ct39 : Value} {od39 an39 : Option Addr} {sl39 : Array (Option Value)}
    {oc40 kV40 doc40 pm40 cd40 ct40 : Value} {od40 an40 : Option Addr} {sl40 : Array (Option Value)}
    {oc41 kV41 doc41 pm41 cd41 ct41 : Value} {od41 an41 : Option Addr} {sl41 : Array (Option Value)}
    {oc42 kV42 doc42 pm42 cd42 ct42 : Value} {od42 an42 : Option Addr} {sl42 : Array (Option Value)}
    {oc43 kV43 doc43 pm43 cd43 ct43 : Value} {od43 an43 : Option Addr} {sl43 : Array (Option Value)}
    {oc44 kV44 doc44 pm44 cd44 ct44 : Value} {od44 an44 : Option Addr} {sl44 : Array (Option Value)}
    {oc45 kV45 doc45 pm45 cd45 ct45 : Value} {od45 an45 : Option Addr} {sl45 : Array (Option Value)}
    {oc46 kV46 doc46 pm46 cd46 ct46 : Value} {od46 an46 : Option Addr} {sl46 : Array (Option Value)}
    {oc47 kV47 doc47 pm47 cd47 ct47 : Value} {od47 an47 : Option Addr} {sl47 : Array (Option Value)}
    {oc48 kV48 doc48 pm48 cd48 ct48 : Value} {od48 an48 : Option Addr} {sl48 : Array (Option Value)}
    {oc49 kV49 doc49 pm49 cd49 ct49 : Value} {od49 an49 : Option Addr} {sl49 : Array (Option Value)}
    {oc50 kV50 doc50 pm50 cd50 ct50 : Value} {od50 an50 : Option Addr} {sl50 : Array (Option Value)}
    {tg_FIGURES : Tok}
    {tg_MOST_FIGURES : Tok}
    {tg_MOST_MODES : Tok}
    {tg_MOST_NUMBERS : Tok}
    {tg_MOST_PUSHES : Tok}
    (aC_BadThing : PySem.W.nsIn K mainGlobals "BadThing" = some (some (.ref C_BadThing)))
    (aC_TooMany : PySem.W.nsIn K mainGlobals "TooMany" = some (some (.ref C_TooMany)))
    (aC_Claim : PySem.W.nsIn K mainGlobals "Claim" = some (some (.ref C_Claim)))
    (aC_Settles : PySem.W.nsIn K mainGlobals "Settles" = some (some (.ref C_Settles)))
    (aC_Comes : PySem.W.nsIn K mainGlobals "Comes" = some (some (.ref C_Comes)))
    (aC_Mode : PySem.W.nsIn K mainGlobals "Mode" = some (some (.ref C_Mode)))
    (aC_Thing : PySem.W.nsIn K mainGlobals "Thing" = some (some (.ref C_Thing)))
    (aC_Rule : PySem.W.nsIn K mainGlobals "Rule" = some (some (.ref C_Rule)))
    (aC_Straight : PySem.W.nsIn K mainGlobals "Straight" = some (some (.ref C_Straight)))
    (aC_Stopped : PySem.W.nsIn K mainGlobals "Stopped" = some (some (.ref C_Stopped)))
    (aC_Parted : PySem.W.nsIn K mainGlobals "Parted" = some (some (.ref C_Parted)))
    (a0 : PySem.W.findIn K (.ref C_Settles) "__init__" = some (some (.ref f0)))
    (l0 : K.lookup f0 = some ⟨oc0, od0, .func (PySem.W.fnOf "__init__" "Settles.__init__" (defArgs s_Settles_init) (defBody s_Settles_init) (defScope s_Settles_init) (.ref dT0) kV0 doc0 pm0 an0 cd0 ct0), sl0⟩)
    (c0 : PySem.W.codeIn K cd0 "Settles.__init__" = true)
    (k0 : PySem.W.keepIn K (.ref f0) = true)
    (n0 : PySem.W.isFn K (.ref f0) = true)
    (t0 : K.lookup dT0 = some ⟨tc0, td0, .seq #[.int 0 tk0_0] tn0, ts0⟩)
    (a1 : PySem.W.findIn K (.ref C_Comes) "__init__" = some (some (.ref f1)))
    (l1 : K.lookup f1 = some ⟨oc1, od1, .func (PySem.W.fnOf "__init__" "Comes.__init__" (defArgs s_Comes_init) (defBody s_Comes_init) (defScope s_Comes_init) .none kV1 doc1 pm1 an1 cd1 ct1), sl1⟩)
    (c1 : PySem.W.codeIn K cd1 "Comes.__init__" = true)
    (k1 : PySem.W.keepIn K (.ref f1) = true)
    (n1 : PySem.W.isFn K (.ref f1) = true)
    (a2 : PySem.W.nsIn K mainGlobals "is_whole" = some (some (.ref f2)))
    (l2 : K.lookup f2 = some ⟨oc2, od2, .func (PySem.W.fnOf "is_whole" "is_whole" (defArgs s_is_whole) (defBody s_is_whole) (defScope s_is_whole) .none kV2 doc2 pm2 an2 cd2 ct2), sl2⟩)
    (c2 : PySem.W.codeIn K cd2 "is_whole" = true)
    (k2 : PySem.W.keepIn K (.ref f2) = true)
    (a3 : PySem.W.nsIn K mainGlobals "own" = some (some (.ref f3)))
    (l3 : K.lookup f3 = some ⟨oc3, od3, .func (PySem.W.fnOf "own" "own" (defArgs s_own) (defBody s_own) (defScope s_own) .none kV3 doc3 pm3 an3 cd3 ct3), sl3⟩)
    (c3 : PySem.W.codeIn K cd3 "own" = true)
    (k3 : PySem.W.keepIn K (.ref f3) = true)
    (a4 : PySem.W.nsIn K mainGlobals "own_list" = some (some (.ref f4)))
    (l4 : K.lookup f4 = some ⟨oc4, od4, .func (PySem.W.fnOf "own_list" "own_list" (defArgs s_own_list) (defBody s_own_list) (defScope s_own_list) .none kV4 doc4 pm4 an4 cd4 ct4), sl4⟩)
    (c4 : PySem.W.codeIn K cd4 "own_list" = true)
    (k4 : PySem.W.keepIn K (.ref f4) = true)
    (a5 : PySem.W.nsIn K mainGlobals "are_wholes" = some (some (.ref f5)))
    (l5 : K.lookup f5 = some ⟨oc5, od5, .func (PySem.W.fnOf "are_wholes" "are_wholes" (defArgs s_are_wholes) (defBody s_are_wholes) (defScope s_are_wholes) .none kV5 doc5 pm5 an5 cd5 ct5), sl5⟩)
    (c5 : PySem.W.codeIn K cd5 "are_wholes" = true)
    (k5 : PySem.W.keepIn K (.ref f5) = true)
    (a6 : PySem.W.nsIn K mainGlobals "is_row" = some (some (.ref f6)))
    (l6 : K.lookup f6 = some ⟨oc6, od6, .func (PySem.W.fnOf "is_row" "is_row" (defArgs s_is_row) (defBody s_is_row) (defScope s_is_row) .none kV6 doc6 pm6 an6 cd6 ct6), sl6⟩)
    (c6 : PySem.W.codeIn K cd6 "is_row" = true)
    (k6 : PySem.W.keepIn K (.ref f6) = true)
    (a7 : PySem.W.nsIn K mainGlobals "is_room" = some (some (.ref f7)))
    (l7 : K.lookup f7 = some ⟨oc7, od7, .func (PySem.W.fnOf "is_room" "is_room" (defArgs s_is_room) (defBody s_is_room) (defScope s_is_room) .none kV7 doc7 pm7 an7 cd7 ct7), sl7⟩)
    (c7 : PySem.W.codeIn K cd7 "is_room" = true)
    (k7 : PySem.W.keepIn K (.ref f7) = true)
    (a8 : PySem.W.nsIn K mainGlobals "is_table" = some (some (.ref f8)))
    (l8 : K.lookup f8 = some ⟨oc8, od8, .func (PySem.W.fnOf "is_table" "is_table" (defArgs s_is_table) (defBody s_is_table) (defScope s_is_table) .none kV8 doc8 pm8 an8 cd8 ct8), sl8⟩)
    (c8 : PySem.W.codeIn K cd8 "is_table" = true)
    (k8 : PySem.W.keepIn K (.ref f8) = true)
    (a9 : PySem.W.findIn K (.ref C_Mode) "__init__" = some (some (.ref f9)))
    (l9 : K.lookup f9 = some ⟨oc9, od9, .func (PySem.W.fnOf "__init__" "Mode.__init__" (defArgs s_Mode_init) (defBody s_Mode_init) (defScope s_Mode_init) .none kV9 doc9 pm9 an9 cd9 ct9), sl9⟩)
    (c9 : PySem.W.codeIn K cd9 "Mode.__init__" = true)
    (k9 : PySem.W.keepIn K (.ref f9) = true)
    (n9 : PySem.W.isFn K (.ref f9) = true)
    (a10 : PySem.W.nsIn K mainGlobals "is_mode" = some (some (.ref f10)))
    (l10 : K.lookup f10 = some ⟨oc10, od10, .func (PySem.W.fnOf "is_mode" "is_mode" (defArgs s_is_mode) (defBody s_is_mode) (defScope s_is_mode) .none kV10 doc10 pm10 an10 cd10 ct10), sl10⟩)
    (c10 : PySem.W.codeIn K cd10 "is_mode" = true)
    (k10 : PySem.W.keepIn K (.ref f10) = true)
    (a11 : PySem.W.nsIn K mainGlobals "is_push" = some (some (.ref f11)))
    (l11 : K.lookup f11 = some ⟨oc11, od11, .func (PySem.W.fnOf "is_push" "is_push" (defArgs s_is_push) (defBody s_is_push) (defScope s_is_push) .none kV11 doc11 pm11 an11 cd11 ct11), sl11⟩)
    (c11 : PySem.W.codeIn K cd11 "is_push" = true)
    (k11 : PySem.W.keepIn K (.ref f11) = true)
    (a12 : PySem.W.findIn K (.ref C_Thing) "__init__" = some (some (.ref f12)))
    (l12 : K.lookup f12 = some ⟨oc12, od12, .func (PySem.W.fnOf "__init__" "Thing.__init__" (defArgs s_Thing_init) (defBody s_Thing_init) (defScope s_Thing_init) .none kV12 doc12 pm12 an12 cd12 ct12), sl12⟩)
    (c12 : PySem.W.codeIn K cd12 "Thing.__init__" = true)
    (k12 : PySem.W.keepIn K (.ref f12) = true)
    (n12 : PySem.W.isFn K (.ref f12) = true)
    (a13 : PySem.W.findIn K (.ref C_Thing) "pushes" = some (some (.ref f13)))
    (l13 : K.lookup f13 = some ⟨oc13, od13, .func (PySem.W.fnOf "pushes" "Thing.pushes" (defArgs s_Thing_pushes) (defBody s_Thing_pushes) (defScope s_Thing_pushes) .none kV13 doc13 pm13 an13 cd13 ct13), sl13⟩)
    (c13 : PySem.W.codeIn K cd13 "Thing.pushes" = true)
    (k13 : PySem.W.keepIn K (.ref f13) = true)
    (n13 : PySem.W.isFn K (.ref f13) = true)
    (a14 : PySem.W.findIn K (.ref C_Thing) "modes" = some (some (.ref f14)))
    (l14 : K.lookup f14 = some ⟨oc14, od14, .func (PySem.W.fnOf "modes" "Thing.modes" (defArgs s_Thing_modes) (defBody s_Thing_modes) (defScope s_Thing_modes) .none kV14 doc14 pm14 an14 cd14 ct14), sl14⟩)
    (c14 : PySem.W.codeIn K cd14 "Thing.modes" = true)
    (k14 : PySem.W.keepIn K (.ref f14) = true)
    (n14 : PySem.W.isFn K (.ref f14) = true)
    (a15 : PySem.W.findIn K (.ref C_Straight) "__init__" = some (some (.ref f15)))
    (l15 : K.lookup f15 = some ⟨oc15, od15, .func (PySem.W.fnOf "__init__" "Straight.__init__" (defArgs s_Straight_init) (defBody s_Straight_init) (defScope s_Straight_init) (.ref dT15) kV15 doc15 pm15 an15 cd15 ct15), sl15⟩)
    (c15 : PySem.W.codeIn K cd15 "Straight.__init__" = true)
    (k15 : PySem.W.keepIn K (.ref f15) = true)
    (n15 : PySem.W.isFn K (.ref f15) = true)
    (t15 : K.lookup dT15 = some ⟨tc15, td15, .seq #[.int 1 tk15_0] tn15, ts15⟩)
    (a16 : PySem.W.findIn K (.ref C_Stopped) "__init__" = some (some (.ref f16)))
    (l16 : K.lookup f16 = some ⟨oc16, od16, .func (PySem.W.fnOf "__init__" "Stopped.__init__" (defArgs s_Stopped_init) (defBody s_Stopped_init) (defScope s_Stopped_init) .none kV16 doc16 pm16 an16 cd16 ct16), sl16⟩)
    (c16 : PySem.W.codeIn K cd16 "Stopped.__init__" = true)
    (k16 : PySem.W.keepIn K (.ref f16) = true)
    (n16 : PySem.W.isFn K (.ref f16) = true)
    (a17 : PySem.W.findIn K (.ref C_Parted) "__init__" = some (some (.ref f17)))
    (l17 : K.lookup f17 = some ⟨oc17, od17, .func (PySem.W.fnOf "__init__" "Parted.__init__" (defArgs s_Parted_init) (defBody s_Parted_init) (defScope s_Parted_init) .none kV17 doc17 pm17 an17 cd17 ct17), sl17⟩)
    (c17 : PySem.W.codeIn K cd17 "Parted.__init__" = true)
    (k17 : PySem.W.keepIn K (.ref f17) = true)
    (n17 : PySem.W.isFn K (.ref f17) = true)
    (a18 : PySem.W.nsIn K mainGlobals "words_in" = some (some (.ref f18)))
    (l18 : K.lookup f18 = some ⟨oc18, od18, .func (PySem.W.fnOf "words_in" "words_in" (defArgs s_words_in) (defBody s_words_in) (defScope s_words_in) .none kV18 doc18 pm18 an18 cd18 ct18), sl18⟩)
    (c18 : PySem.W.codeIn K cd18 "words_in" = true)
    (k18 : PySem.W.keepIn K (.ref f18) = true)
    (a19 : PySem.W.nsIn K mainGlobals "read_number" = some (some (.ref f19)))
    (l19 : K.lookup f19 = some ⟨oc19, od19, .func (PySem.W.fnOf "read_number" "read_number" (defArgs s_read_number) (defBody s_read_number) (defScope s_read_number) .none kV19 doc19 pm19 an19 cd19 ct19), sl19⟩)
    (c19 : PySem.W.codeIn K cd19 "read_number" = true)
    (k19 : PySem.W.keepIn K (.ref f19) = true)
    (a20 : PySem.W.nsIn K mainGlobals "read_numbers" = some (some (.ref f20)))
    (l20 : K.lookup f20 = some ⟨oc20, od20, .func (PySem.W.fnOf "read_numbers" "read_numbers" (defArgs s_read_numbers) (defBody s_read_numbers) (defScope s_read_numbers) .none kV20 doc20 pm20 an20 cd20 ct20), sl20⟩)
    (c20 : PySem.W.codeIn K cd20 "read_numbers" = true)
    (k20 : PySem.W.keepIn K (.ref f20) = true)
    (a21 : PySem.W.nsIn K mainGlobals "show_numbers" = some (some (.ref f21)))
    (l21 : K.lookup f21 = some ⟨oc21, od21, .func (PySem.W.fnOf "show_numbers" "show_numbers" (defArgs s_show_numbers) (defBody s_show_numbers) (defScope s_show_numbers) .none kV21 doc21 pm21 an21 cd21 ct21), sl21⟩)
    (c21 : PySem.W.codeIn K cd21 "show_numbers" = true)
    (k21 : PySem.W.keepIn K (.ref f21) = true)
    (a22 : PySem.W.nsIn K mainGlobals "show_room" = some (some (.ref f22)))
    (l22 : K.lookup f22 = some ⟨oc22, od22, .func (PySem.W.fnOf "show_room" "show_room" (defArgs s_show_room) (defBody s_show_room) (defScope s_show_room) .none kV22 doc22 pm22 an22 cd22 ct22), sl22⟩)
    (c22 : PySem.W.codeIn K cd22 "show_room" = true)
    (k22 : PySem.W.keepIn K (.ref f22) = true)
    (a23 : PySem.W.nsIn K mainGlobals "read_room" = some (some (.ref f23)))
    (l23 : K.lookup f23 = some ⟨oc23, od23, .func (PySem.W.fnOf "read_room" "read_room" (defArgs s_read_room) (defBody s_read_room) (defScope s_read_room) .none kV23 doc23 pm23 an23 cd23 ct23), sl23⟩)
    (c23 : PySem.W.codeIn K cd23 "read_room" = true)
    (k23 : PySem.W.keepIn K (.ref f23) = true)
    (a24 : PySem.W.nsIn K mainGlobals "show_rule" = some (some (.ref f24)))
    (l24 : K.lookup f24 = some ⟨oc24, od24, .func (PySem.W.fnOf "show_rule" "show_rule" (defArgs s_show_rule) (defBody s_show_rule) (defScope s_show_rule) .none kV24 doc24 pm24 an24 cd24 ct24), sl24⟩)
    (c24 : PySem.W.codeIn K cd24 "show_rule" = true)
    (k24 : PySem.W.keepIn K (.ref f24) = true)
    (a25 : PySem.W.nsIn K mainGlobals "rule_at" = some (some (.ref f25)))
    (l25 : K.lookup f25 = some ⟨oc25, od25, .func (PySem.W.fnOf "rule_at" "rule_at" (defArgs s_rule_at) (defBody s_rule_at) (defScope s_rule_at) .none kV25 doc25 pm25 an25 cd25 ct25), sl25⟩)
    (c25 : PySem.W.codeIn K cd25 "rule_at" = true)
    (k25 : PySem.W.keepIn K (.ref f25) = true)
    (a26 : PySem.W.nsIn K mainGlobals "read_rule" = some (some (.ref f26)))
    (l26 : K.lookup f26 = some ⟨oc26, od26, .func (PySem.W.fnOf "read_rule" "read_rule" (defArgs s_read_rule) (defBody s_read_rule) (defScope s_read_rule) .none kV26 doc26 pm26 an26 cd26 ct26), sl26⟩)
    (c26 : PySem.W.codeIn K cd26 "read_rule" = true)
    (k26 : PySem.W.keepIn K (.ref f26) = true)
    (a27 : PySem.W.nsIn K mainGlobals "show_claim" = some (some (.ref f27)))
    (l27 : K.lookup f27 = some ⟨oc27, od27, .func (PySem.W.fnOf "show_claim" "show_claim" (defArgs s_show_claim) (defBody s_show_claim) (defScope s_show_claim) .none kV27 doc27 pm27 an27 cd27 ct27), sl27⟩)
    (c27 : PySem.W.codeIn K cd27 "show_claim" = true)
    (k27 : PySem.W.keepIn K (.ref f27) = true)
    (a28 : PySem.W.nsIn K mainGlobals "claim_of" = some (some (.ref f28)))
    (l28 : K.lookup f28 = some ⟨oc28, od28, .func (PySem.W.fnOf "claim_of" "claim_of" (defArgs s_claim_of) (defBody s_claim_of) (defScope s_claim_of) .none kV28 doc28 pm28 an28 cd28 ct28), sl28⟩)
    (c28 : PySem.W.codeIn K cd28 "claim_of" = true)
    (k28 : PySem.W.keepIn K (.ref f28) = true)
    (a29 : PySem.W.nsIn K mainGlobals "read_claim" = some (some (.ref f29)))
    (l29 : K.lookup f29 = some ⟨oc29, od29, .func (PySem.W.fnOf "read_claim" "read_claim" (defArgs s_read_claim) (defBody s_read_claim) (defScope s_read_claim) .none kV29 doc29 pm29 an29 cd29 ct29), sl29⟩)
    (c29 : PySem.W.codeIn K cd29 "read_claim" = true)
    (k29 : PySem.W.keepIn K (.ref f29) = true)
    (a30 : PySem.W.nsIn K mainGlobals "rows_of_mode" = some (some (.ref f30)))
    (l30 : K.lookup f30 = some ⟨oc30, od30, .func (PySem.W.fnOf "rows_of_mode" "rows_of_mode" (defArgs s_rows_of_mode) (defBody s_rows_of_mode) (defScope s_rows_of_mode) .none kV30 doc30 pm30 an30 cd30 ct30), sl30⟩)
    (c30 : PySem.W.codeIn K cd30 "rows_of_mode" = true)
    (k30 : PySem.W.keepIn K (.ref f30) = true)
    (a31 : PySem.W.nsIn K mainGlobals "show_thing" = some (some (.ref f31)))
    (l31 : K.lookup f31 = some ⟨oc31, od31, .func (PySem.W.fnOf "show_thing" "show_thing" (defArgs s_show_thing) (defBody s_show_thing) (defScope s_show_thing) .none kV31 doc31 pm31 an31 cd31 ct31), sl31⟩)
    (c31 : PySem.W.codeIn K cd31 "show_thing" = true)
    (k31 : PySem.W.keepIn K (.ref f31) = true)
    (a32 : PySem.W.nsIn K mainGlobals "headed" = some (some (.ref f32)))
    (l32 : K.lookup f32 = some ⟨oc32, od32, .func (PySem.W.fnOf "headed" "headed" (defArgs s_headed) (defBody s_headed) (defScope s_headed) .none kV32 doc32 pm32 an32 cd32 ct32), sl32⟩)
    (c32 : PySem.W.codeIn K cd32 "headed" = true)
    (k32 : PySem.W.keepIn K (.ref f32) = true)
    (a33 : PySem.W.nsIn K mainGlobals "read_mode" = some (some (.ref f33)))
    (l33 : K.lookup f33 = some ⟨oc33, od33, .func (PySem.W.fnOf "read_mode" "read_mode" (defArgs s_read_mode) (defBody s_read_mode) (defScope s_read_mode) .none kV33 doc33 pm33 an33 cd33 ct33), sl33⟩)
    (c33 : PySem.W.codeIn K cd33 "read_mode" = true)
    (k33 : PySem.W.keepIn K (.ref f33) = true)
    (a34 : PySem.W.nsIn K mainGlobals "read_thing" = some (some (.ref f34)))
    (l34 : K.lookup f34 = some ⟨oc34, od34, .func (PySem.W.fnOf "read_thing" "read_thing" (defArgs s_read_thing) (defBody s_read_thing) (defScope s_read_thing) .none kV34 doc34 pm34 an34 cd34 ct34), sl34⟩)
    (c34 : PySem.W.codeIn K cd34 "read_thing" = true)
    (k34 : PySem.W.keepIn K (.ref f34) = true)
    (a35 : PySem.W.nsIn K mainGlobals "_law_cell_at" = some (some (.ref f35)))
    (l35 : K.lookup f35 = some ⟨oc35, od35, .func (PySem.W.fnOf "_law_cell_at" "_law_cell_at" (defArgs s__law_cell_at) (defBody s__law_cell_at) (defScope s__law_cell_at) .none kV35 doc35 pm35 an35 cd35 ct35), sl35⟩)
    (c35 : PySem.W.codeIn K cd35 "_law_cell_at" = true)
    (k35 : PySem.W.keepIn K (.ref f35) = true)
    (a36 : PySem.W.nsIn K mainGlobals "_law_stream" = some (some (.ref f36)))
    (l36 : K.lookup f36 = some ⟨oc36, od36, .func (PySem.W.fnOf "_law_stream" "_law_stream" (defArgs s__law_stream) (defBody s__law_stream) (defScope s__law_stream) .none kV36 doc36 pm36 an36 cd36 ct36), sl36⟩)
    (c36 : PySem.W.codeIn K cd36 "_law_stream" = true)
    (k36 : PySem.W.keepIn K (.ref f36) = true)
    (a37 : PySem.W.nsIn K mainGlobals "_law_number" = some (some (.ref f37)))
    (l37 : K.lookup f37 = some ⟨oc37, od37, .func (PySem.W.fnOf "_law_number" "_law_number" (defArgs s__law_number) (defBody s__law_number) (defScope s__law_number) .none kV37 doc37 pm37 an37 cd37 ct37), sl37⟩)
    (c37 : PySem.W.codeIn K cd37 "_law_number" = true)
    (k37 : PySem.W.keepIn K (.ref f37) = true)
    (a38 : PySem.W.nsIn K mainGlobals "_law_words" = some (some (.ref f38)))
    (l38 : K.lookup f38 = some ⟨oc38, od38, .func (PySem.W.fnOf "_law_words" "_law_words" (defArgs s__law_words) (defBody s__law_words) (defScope s__law_words) .none kV38 doc38 pm38 an38 cd38 ct38), sl38⟩)
    (c38 : PySem.W.codeIn K cd38 "_law_words" = true)
    (k38 : PySem.W.keepIn K (.ref f38) = true)
    (a39 : PySem.W.nsIn K mainGlobals "_law_leaf" = some (some (.ref f39)))
    (l39 : K.lookup f39 = some ⟨oc39, od39, .func (PySem.W.fnOf "_law_leaf" "_law_leaf" (defArgs s__law_leaf) (defBody s__law_leaf) (defScope s__law_leaf) .none kV39 doc39 pm39 an39 cd39 ct39), sl39⟩)
    (c39 : PySem.W.codeIn K cd39 "_law_leaf" = true)
    (k39 : PySem.W.keepIn K (.ref f39) = true)
    (a40 : PySem.W.nsIn K mainGlobals "_law_tree" = some (some (.ref f40)))
    (l40 : K.lookup f40 = some ⟨oc40, od40, .func (PySem.W.fnOf "_law_tree" "_law_tree" (defArgs s__law_tree) (defBody s__law_tree) (defScope s__law_tree) .none kV40 doc40 pm40 an40 cd40 ct40), sl40⟩)
    (c40 : PySem.W.codeIn K cd40 "_law_tree" = true)
    (k40 : PySem.W.keepIn K (.ref f40) = true)
    (a41 : PySem.W.nsIn K mainGlobals "_law_rule" = some (some (.ref f41)))
    (l41 : K.lookup f41 = some ⟨oc41, od41, .func (PySem.W.fnOf "_law_rule" "_law_rule" (defArgs s__law_rule) (defBody s__law_rule) (defScope s__law_rule) .none kV41 doc41 pm41 an41 cd41 ct41), sl41⟩)
    (c41 : PySem.W.codeIn K cd41 "_law_rule" = true)
    (k41 : PySem.W.keepIn K (.ref f41) = true)
    (a42 : PySem.W.nsIn K mainGlobals "_law_rule_text" = some (some (.ref f42)))
    (l42 : K.lookup f42 = some ⟨oc42, od42, .func (PySem.W.fnOf "_law_rule_text" "_law_rule_text" (defArgs s__law_rule_text) (defBody s__law_rule_text) (defScope s__law_rule_text) .none kV42 doc42 pm42 an42 cd42 ct42), sl42⟩)
    (c42 : PySem.W.codeIn K cd42 "_law_rule_text" = true)
    (k42 : PySem.W.keepIn K (.ref f42) = true)
    (a43 : PySem.W.nsIn K mainGlobals "_law_same_rule" = some (some (.ref f43)))
    (l43 : K.lookup f43 = some ⟨oc43, od43, .func (PySem.W.fnOf "_law_same_rule" "_law_same_rule" (defArgs s__law_same_rule) (defBody s__law_same_rule) (defScope s__law_same_rule) .none kV43 doc43 pm43 an43 cd43 ct43), sl43⟩)
    (c43 : PySem.W.codeIn K cd43 "_law_same_rule" = true)
    (k43 : PySem.W.keepIn K (.ref f43) = true)
    (a44 : PySem.W.nsIn K mainGlobals "_law_rows" = some (some (.ref f44)))
    (l44 : K.lookup f44 = some ⟨oc44, od44, .func (PySem.W.fnOf "_law_rows" "_law_rows" (defArgs s__law_rows) (defBody s__law_rows) (defScope s__law_rows) .none kV44 doc44 pm44 an44 cd44 ct44), sl44⟩)
    (c44 : PySem.W.codeIn K cd44 "_law_rows" = true)
    (k44 : PySem.W.keepIn K (.ref f44) = true)
    (a45 : PySem.W.nsIn K mainGlobals "_law_room_text" = some (some (.ref f45)))
    (l45 : K.lookup f45 = some ⟨oc45, od45, .func (PySem.W.fnOf "_law_room_text" "_law_room_text" (defArgs s__law_room_text) (defBody s__law_room_text) (defScope s__law_room_text) .none kV45 doc45 pm45 an45 cd45 ct45), sl45⟩)
    (c45 : PySem.W.codeIn K cd45 "_law_room_text" = true)
    (k45 : PySem.W.keepIn K (.ref f45) = true)
    (a46 : PySem.W.nsIn K mainGlobals "_law_claims" = some (some (.ref f46)))
    (l46 : K.lookup f46 = some ⟨oc46, od46, .func (PySem.W.fnOf "_law_claims" "_law_claims" (defArgs s__law_claims) (defBody s__law_claims) (defScope s__law_claims) .none kV46 doc46 pm46 an46 cd46 ct46), sl46⟩)
    (c46 : PySem.W.codeIn K cd46 "_law_claims" = true)
    (k46 : PySem.W.keepIn K (.ref f46) = true)
    (a47 : PySem.W.nsIn K mainGlobals "_law_parts" = some (some (.ref f47)))
    (l47 : K.lookup f47 = some ⟨oc47, od47, .func (PySem.W.fnOf "_law_parts" "_law_parts" (defArgs s__law_parts) (defBody s__law_parts) (defScope s__law_parts) .none kV47 doc47 pm47 an47 cd47 ct47), sl47⟩)
    (c47 : PySem.W.codeIn K cd47 "_law_parts" = true)
    (k47 : PySem.W.keepIn K (.ref f47) = true)
    (a48 : PySem.W.nsIn K mainGlobals "_law_thing_text" = some (some (.ref f48)))
    (l48 : K.lookup f48 = some ⟨oc48, od48, .func (PySem.W.fnOf "_law_thing_text" "_law_thing_text" (defArgs s__law_thing_text) (defBody s__law_thing_text) (defScope s__law_thing_text) .none kV48 doc48 pm48 an48 cd48 ct48), sl48⟩)
    (c48 : PySem.W.codeIn K cd48 "_law_thing_text" = true)
    (k48 : PySem.W.keepIn K (.ref f48) = true)
    (a49 : PySem.W.nsIn K mainGlobals "_law_things" = some (some (.ref f49)))
    (l49 : K.lookup f49 = some ⟨oc49, od49, .func (PySem.W.fnOf "_law_things" "_law_things" (defArgs s__law_things) (defBody s__law_things) (defScope s__law_things) .none kV49 doc49 pm49 an49 cd49 ct49), sl49⟩)
    (c49 : PySem.W.codeIn K cd49 "_law_things" = true)
    (k49 : PySem.W.keepIn K (.ref f49) = true)
    (a50 : PySem.W.nsIn K mainGlobals "law" = some (some (.ref f50)))
    (l50 : K.lookup f50 = some ⟨oc50, od50, .func (PySem.W.fnOf "law" "law" (defArgs s_law) (defBody s_law) (defScope s_law) .none kV50 doc50 pm50 an50 cd50 ct50), sl50⟩)
    (c50 : PySem.W.codeIn K cd50 "law" = true)
    (k50 : PySem.W.keepIn K (.ref f50) = true)
    (z0 : PySem.W.nsIn K mainGlobals "abs" = some none)
    (z1 : PySem.W.nsIn K mainGlobals "all" = some none)
    (z2 : PySem.W.nsIn K mainGlobals "bool" = some none)
    (z3 : PySem.W.nsIn K mainGlobals "int" = some none)
    (z4 : PySem.W.nsIn K mainGlobals "isinstance" = some none)
    (z5 : PySem.W.nsIn K mainGlobals "len" = some none)
    (z6 : PySem.W.nsIn K mainGlobals "list" = some none)
    (z7 : PySem.W.nsIn K mainGlobals "max" = some none)
    (z8 : PySem.W.nsIn K mainGlobals "min" = some none)
    (z9 : PySem.W.nsIn K mainGlobals "range" = some none)
    (z10 : PySem.W.nsIn K mainGlobals "str" = some none)
    (z11 : PySem.W.nsIn K mainGlobals "tuple" = some none)
    (g_FIGURES : PySem.W.nsIn K mainGlobals "FIGURES" = some (some (.str "0123456789" tg_FIGURES)))
    (g_MOST_FIGURES : PySem.W.nsIn K mainGlobals "MOST_FIGURES" = some (some (.int 60 tg_MOST_FIGURES)))
    (g_MOST_MODES : PySem.W.nsIn K mainGlobals "MOST_MODES" = some (some (.int 40 tg_MOST_MODES)))
    (g_MOST_NUMBERS : PySem.W.nsIn K mainGlobals "MOST_NUMBERS" = some (some (.int 3 tg_MOST_NUMBERS)))
    (g_MOST_PUSHES : PySem.W.nsIn K mainGlobals "MOST_PUSHES" = some (some (.int 6 tg_MOST_PUSHES)))
    (q0 : PySem.W.plainGet K C_Thing Str.empty = true)
    (q1 : PySem.W.hasDictIn K C_Thing = true)
    (q2 : PySem.W.plainOver K C_Thing = true)
    (q3 : PySem.W.findIn K (.ref C_Thing) "__setattr__" = some (some (.builtin "object.__setattr__")))
    (q4 : PySem.W.excIn K C_BadThing [.type "ValueError", .type "Exception", .type "BaseException", .type "object"] "ValueError.__new__" = true)
    (q5 : PySem.W.keepIn K (.ref C_BadThing) = true)
    (q6 : PySem.W.subIn K (.ref C_BadThing) (.type "BaseException") = some true)
    (q7 : PySem.W.typeIn K (.ref C_BadThing) = some (.type "type"))
    (q8 : PySem.W.excIn K C_TooMany [.type "ValueError", .type "Exception", .type "BaseException", .type "object"] "ValueError.__new__" = true)
    (q9 : PySem.W.keepIn K (.ref C_TooMany) = true)
    (q10 : PySem.W.subIn K (.ref C_TooMany) (.type "BaseException") = some true)
    (q11 : PySem.W.typeIn K (.ref C_TooMany) = some (.type "type"))
    (q12 : PySem.W.plainGet K C_Mode Str.empty = true)
    (q13 : PySem.W.hasDictIn K C_Mode = true)
    (q14 : PySem.W.plainOver K C_Mode = true)
    (q15 : PySem.W.findIn K (.ref C_Mode) "__setattr__" = some (some (.builtin "object.__setattr__")))
    (q16 : PySem.W.findIn K (.ref C_Mode) "rows" = some none)
    (q17 : PySem.W.findIn K (.ref C_Mode) "nexts" = some none)
    (q18 : PySem.W.findIn K (.ref C_Mode) "steer" = some none)
    (q19 : PySem.W.findIn K (.ref C_Mode) "push" = some none)
    (q20 : PySem.W.findIn K (.ref C_Mode) "add" = some none)
    (q21 : PySem.W.findIn K (.ref C_Mode) "divisor" = some none)
    (q22 : PySem.W.findIn K (.ref C_Thing) "many" = some none)
    (q23 : PySem.W.findIn K (.ref C_Thing) "bounds" = some none)
    (q24 : PySem.W.findIn K (.ref C_Thing) "ways" = some none)
    (q25 : PySem.W.findIn K (.ref C_Mode) "__class__" = some (some (.builtin "object.__class__")))
    (q26 : PySem.W.specialIn K (.builtin "object.__class__") "__get__" = some (some (.builtin "getset_descriptor.__get__")))
    (q27 : PySem.W.takesIn K (.builtin "object.__class__") = some true)
    (q28 : PySem.W.mroIn K C_Mode (.type "object") = some true)
    (q29 : PySem.W.findIn K (.ref C_Thing) "__class__" = some (some (.builtin "object.__class__")))
    (q30 : PySem.W.mroIn K C_Thing (.type "object") = some true)
    (q31 : PySem.W.isClsIn K C_Mode = true)
    (q32 : PySem.W.typeIn K (.ref C_Mode) = some (.type "type"))
    (q33 : PySem.W.subIn K (.ref C_Mode) (.ref C_Mode) = some true)
    (q34 : PySem.W.subIn K (.type "int") (.ref C_Mode) = some false)
    (q35 : ((((.type "int") : Value) == (.ref C_Mode : Value)) : Bool) = false)
    (q36 : PySem.W.subIn K (.type "bool") (.ref C_Mode) = some false)
    (q37 : ((((.type "bool") : Value) == (.ref C_Mode : Value)) : Bool) = false)
    (q38 : PySem.W.subIn K (.type "NoneType") (.ref C_Mode) = some false)
    (q39 : ((((.type "NoneType") : Value) == (.ref C_Mode : Value)) : Bool) = false)
    (q40 : PySem.W.subIn K (.type "str") (.ref C_Mode) = some false)
    (q41 : ((((.type "str") : Value) == (.ref C_Mode : Value)) : Bool) = false)
    (q42 : PySem.W.subIn K (.type "tuple") (.ref C_Mode) = some false)
    (q43 : ((((.type "tuple") : Value) == (.ref C_Mode : Value)) : Bool) = false)
    (q44 : PySem.W.subIn K (.type "list") (.ref C_Mode) = some false)
    (q45 : ((((.type "list") : Value) == (.ref C_Mode : Value)) : Bool) = false)
    (q46 : PySem.W.subIn K (.type "dict") (.ref C_Mode) = some false)
    (q47 : ((((.type "dict") : Value) == (.ref C_Mode : Value)) : Bool) = false)
    (q48 : PySem.W.plainGet K C_Straight Str.empty = true)
    (q49 : PySem.W.hasDictIn K C_Straight = true)
    (q50 : PySem.W.plainOver K C_Straight = true)
    (q51 : PySem.W.findIn K (.ref C_Straight) "__setattr__" = some (some (.builtin "object.__setattr__")))
    (q52 : PySem.W.findIn K (.ref C_Straight) "numbers" = some none)
    (q53 : PySem.W.findIn K (.ref C_Straight) "add" = some none)
    (q54 : PySem.W.findIn K (.ref C_Straight) "divisor" = some none)
    (q55 : PySem.W.plainGet K C_Stopped Str.empty = true)
    (q56 : PySem.W.hasDictIn K C_Stopped = true)
    (q57 : PySem.W.plainOver K C_Stopped = true)
    (q58 : PySem.W.findIn K (.ref C_Stopped) "__setattr__" = some (some (.builtin "object.__setattr__")))
    (q59 : PySem.W.findIn K (.ref C_Stopped) "rule" = some none)
    (q60 : PySem.W.findIn K (.ref C_Stopped) "low" = some none)
    (q61 : PySem.W.findIn K (.ref C_Stopped) "high" = some none)
    (q62 : PySem.W.plainGet K C_Parted Str.empty = true)
    (q63 : PySem.W.hasDictIn K C_Parted = true)
    (q64 : PySem.W.plainOver K C_Parted = true)
    (q65 : PySem.W.findIn K (.ref C_Parted) "__setattr__" = some (some (.builtin "object.__setattr__")))
    (q66 : PySem.W.findIn K (.ref C_Parted) "row" = some none)
    (q67 : PySem.W.findIn K (.ref C_Parted) "rule" = some none)
    (q68 : PySem.W.findIn K (.ref C_Parted) "other" = some none)
    (q69 : PySem.W.findIn K (.ref C_Straight) "__class__" = some (some (.builtin "object.__class__")))
    (q70 : PySem.W.mroIn K C_Straight (.type "object") = some true)
    (q71 : PySem.W.findIn K (.ref C_Stopped) "__class__" = some (some (.builtin "object.__class__")))
    (q72 : PySem.W.mroIn K C_Stopped (.type "object") = some true)
    (q73 : PySem.W.findIn K (.ref C_Parted) "__class__" = some (some (.builtin "object.__class__")))
    (q74 : PySem.W.mroIn K C_Parted (.type "object") = some true)
    (q75 : PySem.W.isClsIn K C_Rule = true)
    (q76 : PySem.W.typeIn K (.ref C_Rule) = some (.type "type"))
    (q77 : PySem.W.subIn K (.ref C_Straight) (.ref C_Rule) = some true)
    (q78 : PySem.W.subIn K (.ref C_Stopped) (.ref C_Rule) = some true)
    (q79 : PySem.W.subIn K (.ref C_Parted) (.ref C_Rule) = some true)
    (q80 : PySem.W.isClsIn K C_Straight = true)
    (q81 : PySem.W.typeIn K (.ref C_Straight) = some (.type "type"))
    (q82 : PySem.W.subIn K (.ref C_Straight) (.ref C_Straight) = some true)
    (q83 : PySem.W.subIn K (.ref C_Stopped) (.ref C_Straight) = some false)
    (q84 : ((((.ref C_Stopped) : Value) == (.ref C_Straight : Value)) : Bool) = false)
    (q85 : PySem.W.isClsIn K C_Stopped = true)
    (q86 : PySem.W.typeIn K (.ref C_Stopped) = some (.type "type"))
    (q87 : PySem.W.subIn K (.ref C_Stopped) (.ref C_Stopped) = some true)
    (q88 : PySem.W.subIn K (.ref C_Parted) (.ref C_Straight) = some false)
    (q89 : ((((.ref C_Parted) : Value) == (.ref C_Straight : Value)) : Bool) = false)
    (q90 : PySem.W.subIn K (.ref C_Parted) (.ref C_Stopped) = some false)
    (q91 : ((((.ref C_Parted) : Value) == (.ref C_Stopped : Value)) : Bool) = false)
    (q92 : PySem.W.isClsIn K C_Parted = true)
    (q93 : PySem.W.typeIn K (.ref C_Parted) = some (.type "type"))
    (q94 : PySem.W.subIn K (.ref C_Parted) (.ref C_Parted) = some true)
    (q95 : PySem.W.plainGet K C_Settles Str.empty = true)
    (q96 : PySem.W.hasDictIn K C_Settles = true)
    (q97 : PySem.W.plainOver K C_Settles = true)
    (q98 : PySem.W.findIn K (.ref C_Settles) "__setattr__" = some (some (.builtin "object.__setattr__")))
    (q99 : PySem.W.findIn K (.ref C_Settles) "start" = some none)
    (q100 : PySem.W.findIn K (.ref C_Settles) "rows" = some none)
    (q101 : PySem.W.findIn K (.ref C_Settles) "turn" = some none)
    (q102 : PySem.W.plainGet K C_Comes Str.empty = true)
    (q103 : PySem.W.hasDictIn K C_Comes = true)
    (q104 : PySem.W.plainOver K C_Comes = true)
    (q105 : PySem.W.findIn K (.ref C_Comes) "__setattr__" = some (some (.builtin "object.__setattr__")))
    (q106 : PySem.W.findIn K (.ref C_Comes) "start" = some none)
    (q107 : PySem.W.findIn K (.ref C_Comes) "goal" = some none)
    (q108 : PySem.W.findIn K (.ref C_Comes) "turns" = some none)
    (q109 : PySem.W.findIn K (.ref C_Settles) "__class__" = some (some (.builtin "object.__class__")))
    (q110 : PySem.W.mroIn K C_Settles (.type "object") = some true)
    (q111 : PySem.W.findIn K (.ref C_Comes) "__class__" = some (some (.builtin "object.__class__")))
    (q112 : PySem.W.mroIn K C_Comes (.type "object") = some true)
    (q113 : PySem.W.isClsIn K C_Settles = true)
    (q114 : PySem.W.typeIn K (.ref C_Settles) = some (.type "type"))
    (q115 : PySem.W.subIn K (.ref C_Settles) (.ref C_Settles) = some true)
    (q116 : PySem.W.isClsIn K C_Comes = true)
    (q117 : PySem.W.typeIn K (.ref C_Comes) = some (.type "type"))
    (q118 : PySem.W.subIn K (.ref C_Settles) (.ref C_Comes) = some false)
    (q119 : ((((.ref C_Settles) : Value) == (.ref C_Comes : Value)) : Bool) = false)
    (q120 : PySem.W.isClsIn K C_Claim = true)
    (q121 : PySem.W.typeIn K (.ref C_Claim) = some (.type "type"))
    (q122 : PySem.W.subIn K (.ref C_Settles) (.ref C_Claim) = some true)
    (q123 : PySem.W.subIn K (.ref C_Comes) (.ref C_Comes) = some true)
    (q124 : PySem.W.subIn K (.ref C_Comes) (.ref C_Settles) = some false)
    (q125 : ((((.ref C_Comes) : Value) == (.ref C_Settles : Value)) : Bool) = false)
    (q126 : PySem.W.isClsIn K C_Thing = true)
    (q127 : PySem.W.typeIn K (.ref C_Thing) = some (.type "type"))
    (q128 : PySem.W.subIn K (.ref C_Thing) (.ref C_Thing) = some true)
    (q129 : PySem.W.makesIn K C_Comes = true)
    (q130 : PySem.W.keepIn K (.ref C_Comes) = true)
    (q131 : PySem.W.makesIn K C_Mode = true)
    (q132 : PySem.W.keepIn K (.ref C_Mode) = true)
    (q133 : PySem.W.makesIn K C_Parted = true)
    (q134 : PySem.W.keepIn K (.ref C_Parted) = true)
    (q135 : PySem.W.makesIn K C_Settles = true)
    (q136 : PySem.W.keepIn K (.ref C_Settles) = true)
    (q137 : PySem.W.makesIn K C_Stopped = true)
    (q138 : PySem.W.keepIn K (.ref C_Stopped) = true)
    (q139 : PySem.W.makesIn K C_Straight = true)
    (q140 : PySem.W.keepIn K (.ref C_Straight) = true)
    (q141 : PySem.W.makesIn K C_Thing = true)
    (q142 : PySem.W.keepIn K (.ref C_Thing) = true) :
    ∃ fd : FuncData, (∀ (s : Shared) (u : Value), BindsTo s fd ⟨[u], []⟩ [("_law_script", u)]) ∧
      ∀ base : Heap, K.In base → base.Ns mainGlobals mg → FnOk l.prog w K mg base (L2.CX l.prog w) 15 fa fd ["_law_script"] (spD K 1 (gLaw 63)) := by
  have e := hfa.symm.trans (PySem.W.mg_of X G a50)
  cases e
  have T : Txt K mg f0 f1 f2 f3 f4 f5 f6 f7 f8 f9 f10 f11 f12 f13 f14 f15 f16 f17 f18 f19 f20 f21 f22 f23 f24 f25 f26 f27 f28 f29 f30 f31 f32 f33 f34 f35 f36 f37 f38 f39 f40 f41 f42 f43 f44 f45 f46 f47 f48 f49 _ C_BadThing C_TooMany C_Claim C_Settles C_Comes C_Mode C_Thing C_Rule C_Straight C_Stopped C_Parted := ⟨PySem.W.mg_none_of X G z0, PySem.W.mg_none_of X G z1, PySem.W.mg_none_of X G z2, PySem.W.mg_none_of X G z3, PySem.W.mg_none_of X G z4, PySem.W.mg_none_of X G z5, PySem.W.mg_none_of X G z6, PySem.W.mg_none_of X G z7, PySem.W.mg_none_of X G z8, PySem.W.mg_none_of X G z9, PySem.W.mg_none_of X G z10, PySem.W.mg_none_of X G z11, PySem.W.mg_of X G a2, PySem.W.mg_of X G a3, PySem.W.mg_of X G a4, PySem.W.mg_of X G a5, PySem.W.mg_of X G a6, PySem.W.mg_of X G a7, PySem.W.mg_of X G a8, PySem.W.mg_of X G a10, PySem.W.mg_of X G a11, PySem.W.mg_of X G a18, PySem.W.mg_of X G a19, PySem.W.mg_of X G a20, PySem.W.mg_of X G a21, PySem.W.mg_of X G a22, PySem.W.mg_of X G a23, PySem.W.mg_of X G a24, PySem.W.mg_of X G a25, PySem.W.mg_of X G a26, PySem.W.mg_of X G a27, PySem.W.mg_of X G a28, PySem.W.mg_of X G a29, PySem.W.mg_of X G a30, PySem.W.mg_of X G a31, PySem.W.mg_of X G a32, PySem.W.mg_of X G a33, PySem.W.mg_of X G a34, PySem.W.mg_of X G a35, PySem.W.mg_of X G a36, PySem.W.mg_of X G a37, PySem.W.mg_of X G a38, PySem.W.mg_of X G a39, PySem.W.mg_of X G a40, PySem.W.mg_of X G a41, PySem.W.mg_of X G a42, PySem.W.mg_of X G a43, PySem.W.mg_of X G a44, PySem.W.mg_of X G a45, PySem.W.mg_of X G a46, PySem.W.mg_of X G a47, PySem.W.mg_of X G a48, PySem.W.mg_of X G a49, PySem.W.mg_of X G a50, ⟨_, PySem.W.mg_of X G g_FIGURES⟩, ⟨_, PySem.W.mg_of X G g_MOST_FIGURES⟩, ⟨_, PySem.W.mg_of X G g_MOST_MODES⟩, ⟨_, PySem.W.mg_of X G g_MOST_NUMBERS⟩, ⟨_, PySem.W.mg_of X G g_MOST_PUSHES⟩, PySem.W.mg_of X G aC_BadThing, PySem.W.mg_of X G aC_Claim, PySem.W.mg_of X G aC_Comes, PySem.W.mg_of X G aC_Mode, PySem.W.mg_of X G aC_Parted, PySem.W.mg_of X G aC_Rule, PySem.W.mg_of X G aC_Settles, PySem.W.mg_of X G aC_Stopped, PySem.W.mg_of X G aC_Straight, PySem.W.mg_of X G aC_Thing, PySem.W.mg_of X G aC_TooMany, ⟨q0, q1, q2, q3⟩, ⟨a14, n14, k14⟩, ⟨a13, n13, k13⟩, ⟨q4, PySem.W.mg_of X G aC_BadThing, q5, q6, q7⟩, ⟨q8, PySem.W.mg_of X G aC_TooMany, q9, q10, q11⟩, ⟨⟨⟨q12, q13, q14, q15⟩, q16⟩, ⟨⟨q12, q13, q14, q15⟩, q17⟩, ⟨⟨q12, q13, q14, q15⟩, q18⟩, ⟨⟨q12, q13, q14, q15⟩, q19⟩, ⟨⟨q12, q13, q14, q15⟩, q20⟩, ⟨⟨q12, q13, q14, q15⟩, q21⟩, ⟨⟨q0, q1, q2, q3⟩, q22⟩, ⟨⟨q0, q1, q2, q3⟩, q23⟩, ⟨⟨q0, q1, q2, q3⟩, q24⟩, ⟨⟨q12, q13, q14, q15⟩, q25, q26, q27, q28⟩, ⟨⟨q0, q1, q2, q3⟩, q29, q26, q27, q30⟩, kit_of q31 q32 q33 (fun _ => rfl), kit_of q31 q32 q34 (fun z => absurd (z.symm.trans q35) (fun y => nomatch y)), kit_of q31 q32 q36 (fun z => absurd (z.symm.trans q37) (fun y => nomatch y)), kit_of q31 q32 q38 (fun z => absurd (z.symm.trans q39) (fun y => nomatch y)), kit_of q31 q32 q40 (fun z => absurd (z.symm.trans q41) (fun y => nomatch y)), kit_of q31 q32 q42 (fun z => absurd (z.symm.trans q43) (fun y => nomatch y)), kit_of q31 q32 q44 (fun z => absurd (z.symm.trans q45) (fun y => nomatch y)), kit_of q31 q32 q46 (fun z => absurd (z.symm.trans q47) (fun y => nomatch y))⟩, ⟨⟨⟨q48, q49, q50, q51⟩, q52⟩, ⟨⟨q48, q49, q50, q51⟩, q53⟩, ⟨⟨q48, q49, q50, q51⟩, q54⟩, ⟨⟨q55, q56, q57, q58⟩, q59⟩, ⟨⟨q55, q56, q57, q58⟩, q60⟩, ⟨⟨q55, q56, q57, q58⟩, q61⟩, ⟨⟨q62, q63, q64, q65⟩, q66⟩, ⟨⟨q62, q63, q64, q65⟩, q67⟩, ⟨⟨q62, q63, q64, q65⟩, q68⟩, ⟨⟨q48, q49, q50, q51⟩, q69, q26, q27, q70⟩, ⟨⟨q55, q56, q57, q58⟩, q71, q26, q27, q72⟩, ⟨⟨q62, q63, q64, q65⟩, q73, q26, q27, q74⟩, kit_of q75 q76 q77 (fun _ => rfl), kit_of q75 q76 q78 (fun _ => rfl), kit_of q75 q76 q79 (fun _ => rfl)⟩, ⟨kit_of q80 q81 q82 (fun _ => rfl), kit_of q80 q81 q83 (fun z => absurd (z.symm.trans q84) (fun y => nomatch y)), kit_of q85 q86 q87 (fun _ => rfl), kit_of q80 q81 q88 (fun z => absurd (z.symm.trans q89) (fun y => nomatch y)), kit_of q85 q86 q90 (fun z => absurd (z.symm.trans q91) (fun y => nomatch y)), kit_of q92 q93 q94 (fun _ => rfl)⟩, ⟨⟨⟨q95, q96, q97, q98⟩, q99⟩, ⟨⟨q95, q96, q97, q98⟩, q100⟩, ⟨⟨q95, q96, q97, q98⟩, q101⟩, ⟨⟨q102, q103, q104, q105⟩, q106⟩, ⟨⟨q102, q103, q104, q105⟩, q107⟩, ⟨⟨q102, q103, q104, q105⟩, q108⟩, ⟨⟨q95, q96, q97, q98⟩, q109, q26, q27, q110⟩, ⟨⟨q102, q103, q104, q105⟩, q111, q26, q27, q112⟩, kit_of q113 q114 q115 (fun _ => rfl), kit_of q116 q117 q118 (fun z => absurd (z.symm.trans q119) (fun y => nomatch y)), kit_of q120 q121 q122 (fun _ => rfl), kit_of q116 q117 q123 (fun _ => rfl), kit_of q113 q114 q124 (fun z => absurd (z.symm.trans q125) (fun y => nomatch y))⟩, ⟨kit_of q126 q127 q128 (fun _ => rfl)⟩⟩
  refine ⟨PySem.W.fnOf "law" "law" (defArgs s_law) (defBody s_law) (defScope s_law) .none kV50 doc50 pm50 an50 cd50 ct50, fun s v => .of_eq rfl, fun base _ _ => ?_⟩
  have D_show_numbers : FD l.prog w K mg base 1 f21 1 [] g_show_numbers := ⟨⟨_, _, [], [], def_okA l21 c21 sc_show_numbers rfl (fun cdv A outer s H E hr => der_show_numbers T hr) rd_show_numbers, .all (al1 fun _ => rfl), .nil, fun _ => .nil⟩, k21⟩
  have D_show_rule : FD l.prog w K mg base 11 f24 1 [] (g_showRP C_Straight C_Stopped C_Parted 10) := by
    have key := rec_ok (P := l.prog) (w := w) (K := K) (mg := mg) (base := base) (f := f24) (ps := ["rule"]) (n := 1) (c := 1) (G := (g_showRP C_Straight C_Stopped C_Parted)) rfl (fun j kk hk F => def_okA l24 c24 sc_show_rule rfl (fun cdv A outer s H E hr => der_show_rule T hk ⟨⟨_, _, [], [], F, .all (al1 fun _ => rfl), .nil, fun _ => .nil⟩, k24⟩ D_show_numbers hr) (rd_show_rule T.kf_RuK T.kf_RsK j)) 10
    exact ⟨⟨_, _, [], [], key, .all (al1 fun _ => rfl), .nil, fun _ => .nil⟩, k24⟩
  have D_words_in : FD l.prog w K mg base 1 f18 1 [] g_words_in := ⟨⟨_, _, [], [], def_okA l18 c18 sc_words_in rfl (fun cdv A outer s H E hr => der_words_in T hr) rd_words_in, .all (al1 fun _ => rfl), .nil, fun _ => .nil⟩, k18⟩
  have D_read_number : FD l.prog w K mg base 1 f19 1 [] g_read_number := ⟨⟨_, _, [], [], def_okA l19 c19 sc_read_number rfl (fun cdv A outer s H E hr => der_read_number T hr) rd_read_number, .all (al1 fun _ => rfl), .nil, fun _ => .nil⟩, k19⟩
  have D_read_numbers : FD l.prog w K mg base 2 f20 2 [] g_read_numbers := ⟨⟨_, _, [], [], def_okA l20 c20 sc_read_numbers rfl (fun cdv A outer s H E hr => der_read_numbers T D_read_number hr) rd_read_numbers, .all (al2 fun _ _ => rfl), .nil, fun _ => .nil⟩, k20⟩
  have I_Parted : FI l.prog w K mg base 1 C_Parted 4 [] g_Parted_init := ⟨⟨f17, _, _, [], [], def_okI (C := C_Parted) l17 c17 sc_Parted_init rfl (fun cdv A outer s H E hr => der_Parted_init T hr) (rd_Parted_init T.kf_RuK), .all (al4 fun _ _ _ _ => rfl), .nil, fun _ => .nil, ⟨q133, a17, n17, q134⟩⟩⟩
  have I_Stopped : FI l.prog w K mg base 1 C_Stopped 4 [] g_Stopped_init := ⟨⟨f16, _, _, [], [], def_okI (C := C_Stopped) l16 c16 sc_Stopped_init rfl (fun cdv A outer s H E hr => der_Stopped_init T hr) (rd_Stopped_init T.kf_RuK), .all (al4 fun _ _ _ _ => rfl), .nil, fun _ => .nil, ⟨q137, a16, n16, q138⟩⟩⟩
  have D_own_list : FD l.prog w K mg base 1 f4 1 [] g_own_list := ⟨⟨_, _, [], [], def_okA l4 c4 sc_own_list rfl (fun cdv A outer s H E hr => der_own_list T hr) rd_own_list, .all (al1 fun _ => rfl), .nil, fun _ => .nil⟩, k4⟩
  have F_Straight : FunD K "__init__" "Straight.__init__" (defArgs s_Straight_init) (defBody s_Straight_init) (defScope s_Straight_init) [.int 1] [] f15 _ := ⟨⟨_, _, _, _, _, _, _, _, _, _, rfl, l15, c15, .inr ⟨by simp, dT15, _, [.int 1 tk15_0], tn15, rfl, t15, rfl, .cons ⟨_, rfl⟩ .nil⟩, .inl rfl⟩, k15⟩
  have I_Straight : FI l.prog w K mg base 2 C_Straight 4 [] g_Straight_init := by
    obtain ⟨ds, v, b⟩ := F_Straight.binds1 (ps := ["self", "numbers", "add", "divisor"]) 4 1 (by simp) rfl (fun T kV doc pm an cdv ct us its h1 h2 => match us, its, h1, h2 with | [_, _, _, _], [_], _, _ => ⟨_, rfl, rfl⟩)
    exact ⟨⟨f15, _, _, _, ds, def_okI (C := C_Straight) l15 c15 sc_Straight_init rfl (fun cdv A outer s H E hr => der_Straight_init T D_own_list hr) (rd_Straight_init T.kf_RuK), b, v, fun _ => .nil, ⟨q139, a15, n15, q140⟩⟩⟩
  have D_rule_at : FD l.prog w K mg base 13 f25 2 [] (g_atP C_Straight C_Stopped C_Parted 10) := by
    have key := rec_ok (P := l.prog) (w := w) (K := K) (mg := mg) (base := base) (f := f25) (ps := ["words", "many"]) (n := 2) (c := 3) (G := (g_atP C_Straight C_Stopped C_Parted)) rfl (fun j kk hk F => def_okA l25 c25 sc_rule_at rfl (fun cdv A outer s H E hr => der_rule_at T hk ⟨⟨_, _, [], [], F, .all (al2 fun _ _ => rfl), .nil, fun _ => .nil⟩, k25⟩ D_read_numbers I_Parted I_Stopped I_Straight hr) (rd_rule_at j)) 10
    exact ⟨⟨_, _, [], [], key, .all (al2 fun _ _ => rfl), .nil, fun _ => .nil⟩, k25⟩
  have D_read_rule : FD l.prog w K mg base 14 f26 2 [] (g_read_rule C_Straight C_Stopped C_Parted) := ⟨⟨_, _, [], [], def_okA l26 c26 sc_read_rule rfl (fun cdv A outer s H E hr => der_read_rule T D_words_in D_rule_at hr) rd_read_rule, .all (al2 fun _ _ => rfl), .nil, fun _ => .nil⟩, k26⟩
  have D__law_cell_at : FD l.prog w K mg base 1 f35 2 [] g__law_cell_at := ⟨⟨_, _, [], [], def_okA l35 c35 sc__law_cell_at rfl (fun cdv A outer s H E hr => der__law_cell_at T hr) rd__law_cell_at, .all (al2 fun _ _ => rfl), .nil, fun _ => .nil⟩, k35⟩
  have D__law_stream : FD l.prog w K mg base 1 f36 2 [] g__law_stream := ⟨⟨_, _, [], [], def_okA l36 c36 sc__law_stream rfl (fun cdv A outer s H E hr => der__law_stream T hr) rd__law_stream, .all (al2 fun _ _ => rfl), .nil, fun _ => .nil⟩, k36⟩
  have D__law_number : FD l.prog w K mg base 1 f37 1 [] g__law_number := ⟨⟨_, _, [], [], def_okA l37 c37 sc__law_number rfl (fun cdv A outer s H E hr => der__law_number T hr) rd__law_number, .all (al1 fun _ => rfl), .nil, fun _ => .nil⟩, k37⟩
  have D__law_leaf : FD l.prog w K mg base 2 f39 2 [] g__law_leaf := ⟨⟨_, _, [], [], def_okA l39 c39 sc__law_leaf rfl (fun cdv A outer s H E hr => der__law_leaf T D__law_stream D__law_number hr) rd__law_leaf, .all (al2 fun _ _ => rfl), .nil, fun _ => .nil⟩, k39⟩
  have D__law_tree : FD l.prog w K mg base 3 f40 2 [] g__law_tree := ⟨⟨_, _, [], [], def_okA l40 c40 sc__law_tree rfl (fun cdv A outer s H E hr => der__law_tree T D__law_cell_at D__law_stream D__law_number D__law_leaf hr) rd__law_tree, .all (al2 fun _ _ => rfl), .nil, fun _ => .nil⟩, k40⟩
  have D__law_rule : FD l.prog w K mg base 13 f41 1 [] (g_ruleP C_Straight C_Stopped C_Parted 10) := by
    have key := rec_ok (P := l.prog) (w := w) (K := K) (mg := mg) (base := base) (f := f41) (ps := ["_law_tree_here"]) (n := 1) (c := 3) (G := (g_ruleP C_Straight C_Stopped C_Parted)) rfl (fun j kk hk F => def_okA l41 c41 sc__law_rule rfl (fun cdv A outer s H E hr => der__law_rule T hk ⟨⟨_, _, [], [], F, .all (al1 fun _ => rfl), .nil, fun _ => .nil⟩, k41⟩ I_Parted I_Stopped I_Straight hr) (rd__law_rule j)) 10
    exact ⟨⟨_, _, [], [], key, .all (al1 fun _ => rfl), .nil, fun _ => .nil⟩, k41⟩
  have D__law_words : FD l.prog w K mg base 1 f38 1 [] g__law_words := ⟨⟨_, _, [], [], def_okA l38 c38 sc__law_words rfl (fun cdv A outer s H E hr => der__law_words T hr) rd__law_words, .all (al1 fun _ => rfl), .nil, fun _ => .nil⟩, k38⟩
  have D__law_rule_text : FD l.prog w K mg base 11 f42 1 [] (g_textP 10) := by
    have key := rec_ok (P := l.prog) (w := w) (K := K) (mg := mg) (base := base) (f := f42) (ps := ["_law_tree_here"]) (n := 1) (c := 1) (G := g_textP) rfl (fun j kk hk F => def_okA l42 c42 sc__law_rule_text rfl (fun cdv A outer s H E hr => der__law_rule_text T hk ⟨⟨_, _, [], [], F, .all (al1 fun _ => rfl), .nil, fun _ => .nil⟩, k42⟩ D__law_words hr) (rd__law_rule_text j)) 10
    exact ⟨⟨_, _, [], [], key, .all (al1 fun _ => rfl), .nil, fun _ => .nil⟩, k42⟩
  have D__law_same_rule : FD l.prog w K mg base 10 f43 2 [] (g_sameP C_Straight C_Stopped C_Parted 10) := by
    have key := rec_ok (P := l.prog) (w := w) (K := K) (mg := mg) (base := base) (f := f43) (ps := ["_law_rule_here", "_law_tree_here"]) (n := 2) (c := 0) (G := (g_sameP C_Straight C_Stopped C_Parted)) rfl (fun j kk hk F => def_okA l43 c43 sc__law_same_rule rfl (fun cdv A outer s H E hr => der__law_same_rule T hk ⟨⟨_, _, [], [], F, .all (al2 fun _ _ => rfl), .nil, fun _ => .nil⟩, k43⟩ hr) (rd__law_same_rule T.kf_RuK T.kf_RsK j)) 10
    exact ⟨⟨_, _, [], [], key, .all (al2 fun _ _ => rfl), .nil, fun _ => .nil⟩, k43⟩
  have D_show_room : FD l.prog w K mg base 2 f22 1 [] g_show_room := ⟨⟨_, _, [], [], def_okA l22 c22 sc_show_room rfl (fun cdv A outer s H E hr => der_show_room T D_show_numbers hr) rd_show_room, .all (al1 fun _ => rfl), .nil, fun _ => .nil⟩, k22⟩
  have D_show_claim : FD l.prog w K mg base 3 f27 1 [] (g_show_claim C_Settles C_Comes) := ⟨⟨_, _, [], [], def_okA l27 c27 sc_show_claim rfl (fun cdv A outer s H E hr => der_show_claim T D_show_room hr) (rd_show_claim T.kf_ScK), .all (al1 fun _ => rfl), .nil, fun _ => .nil⟩, k27⟩
  have D_read_room : FD l.prog w K mg base 3 f23 2 [] g_read_room := ⟨⟨_, _, [], [], def_okA l23 c23 sc_read_room rfl (fun cdv A outer s H E hr => der_read_room T D_read_numbers hr) rd_read_room, .all (al2 fun _ _ => rfl), .nil, fun _ => .nil⟩, k23⟩
  have I_Comes : FI l.prog w K mg base 1 C_Comes 4 [] g_Comes_init := ⟨⟨f1, _, _, [], [], def_okI (C := C_Comes) l1 c1 sc_Comes_init rfl (fun cdv A outer s H E hr => der_Comes_init T hr) (rd_Comes_init T.kf_ScK), .all (al4 fun _ _ _ _ => rfl), .nil, fun _ => .nil, ⟨q129, a1, n1, q130⟩⟩⟩
  have F_Settles : FunD K "__init__" "Settles.__init__" (defArgs s_Settles_init) (defBody s_Settles_init) (defScope s_Settles_init) [.int 0] [] f0 _ := ⟨⟨_, _, _, _, _, _, _, _, _, _, rfl, l0, c0, .inr ⟨by simp, dT0, _, [.int 0 tk0_0], tn0, rfl, t0, rfl, .cons ⟨_, rfl⟩ .nil⟩, .inl rfl⟩, k0⟩
  have I_Settles : FI l.prog w K mg base 1 C_Settles 4 [] g_Settles_init := by
    obtain ⟨ds, v, b⟩ := F_Settles.binds1 (ps := ["self", "start", "rows", "turn"]) 4 1 (by simp) rfl (fun T kV doc pm an cdv ct us its h1 h2 => match us, its, h1, h2 with | [_, _, _, _], [_], _, _ => ⟨_, rfl, rfl⟩)
    exact ⟨⟨f0, _, _, _, ds, def_okI (C := C_Settles) l0 c0 sc_Settles_init rfl (fun cdv A outer s H E hr => der_Settles_init T hr) (rd_Settles_init T.kf_ScK), b, v, fun _ => .nil, ⟨q135, a0, n0, q136⟩⟩⟩
  have D_claim_of : FD l.prog w K mg base 4 f28 2 [] (g_claim_of C_Settles C_Comes) := ⟨⟨_, _, [], [], def_okA l28 c28 sc_claim_of rfl (fun cdv A outer s H E hr => der_claim_of T D_read_number D_read_room I_Comes I_Settles hr) rd_claim_of, .all (al2 fun _ _ => rfl), .nil, fun _ => .nil⟩, k28⟩
  have D_read_claim : FD l.prog w K mg base 5 f29 2 [] (g_read_claim C_Settles C_Comes) := ⟨⟨_, _, [], [], def_okA l29 c29 sc_read_claim rfl (fun cdv A outer s H E hr => der_read_claim T D_claim_of hr) rd_read_claim, .all (al2 fun _ _ => rfl), .nil, fun _ => .nil⟩, k29⟩
  have D__law_rows : FD l.prog w K mg base 2 f44 3 [] g__law_rows := ⟨⟨_, _, [], [], def_okA l44 c44 sc__law_rows rfl (fun cdv A outer s H E hr => der__law_rows T D__law_stream D__law_number hr) rd__law_rows, .all (al3 fun _ _ _ => rfl), .nil, fun _ => .nil⟩, k44⟩
  have D__law_room_text : FD l.prog w K mg base 2 f45 1 [] g__law_room_text := ⟨⟨_, _, [], [], def_okA l45 c45 sc__law_room_text rfl (fun cdv A outer s H E hr => der__law_room_text T D__law_words hr) rd__law_room_text, .all (al1 fun _ => rfl), .nil, fun _ => .nil⟩, k45⟩
  have D__law_claims : FD l.prog w K mg base 6 f46 2 [] g__law_claims := ⟨⟨_, _, [], [], def_okA l46 c46 sc__law_claims rfl (fun cdv A outer s H E hr => der__law_claims T D_show_claim D_read_claim D__law_cell_at D__law_number D__law_rows D__law_room_text I_Comes I_Settles hr) (rd__law_claims T.kf_ScK), .all (al2 fun _ _ => rfl), .nil, fun _ => .nil⟩, k46⟩
  have D_rows_of_mode : FD l.prog w K mg base 2 f30 1 [] (g_rows_of_mode C_Mode) := ⟨⟨_, _, [], [], def_okA l30 c30 sc_rows_of_mode rfl (fun cdv A outer s H E hr => der_rows_of_mode T D_show_numbers hr) (rd_rows_of_mode T.kf_ThK), .all (al1 fun _ => rfl), .nil, fun _ => .nil⟩, k30⟩
  have M_Thing_modes : FN l.prog w K mg base 1 f14 1 (g_Thing_modes C_Thing) := ⟨⟨_, _, def_okA l14 c14 sc_Thing_modes rfl (fun cdv A outer s H E hr => der_Thing_modes T hr) (rd_Thing_modes T.kf_ThK), .all (al1 fun _ => rfl)⟩, k14⟩
  have M_Thing_pushes : FN l.prog w K mg base 1 f13 1 (g_Thing_pushes C_Thing) := ⟨⟨_, _, def_okA l13 c13 sc_Thing_pushes rfl (fun cdv A outer s H E hr => der_Thing_pushes T hr) (rd_Thing_pushes T.kf_ThK), .all (al1 fun _ => rfl)⟩, k13⟩
  have D_show_thing : FD l.prog w K mg base 3 f31 1 [] (g_show_thing C_Mode C_Thing) := ⟨⟨_, _, [], [], def_okA l31 c31 sc_show_thing rfl (fun cdv A outer s H E hr => der_show_thing T D_rows_of_mode M_Thing_modes M_Thing_pushes hr) (rd_show_thing T.kf_ThK), .all (al1 fun _ => rfl), .nil, fun _ => .nil⟩, k31⟩
  have D_headed : FD l.prog w K mg base 1 f32 3 [] g_headed := ⟨⟨_, _, [], [], def_okA l32 c32 sc_headed rfl (fun cdv A outer s H E hr => der_headed T hr) rd_headed, .all (al3 fun _ _ _ => rfl), .nil, fun _ => .nil⟩, k32⟩
  have D_own : FD l.prog w K mg base 2 f3 1 [] g_own := ⟨⟨_, _, [], [], def_okA l3 c3 sc_own rfl (fun cdv A outer s H E hr => der_own T D_own_list hr) rd_own, .all (al1 fun _ => rfl), .nil, fun _ => .nil⟩, k3⟩
  have I_Mode : FI l.prog w K mg base 3 C_Mode 7 [] g_Mode_init := ⟨⟨f9, _, _, [], [], def_okI (C := C_Mode) l9 c9 sc_Mode_init rfl (fun cdv A outer s H E hr => der_Mode_init T D_own hr) (rd_Mode_init T.kf_ThK), .all (al7 fun _ _ _ _ _ _ _ => rfl), .nil, fun _ => .nil, ⟨q131, a9, n9, q132⟩⟩⟩
  have D_read_mode : FD l.prog w K mg base 5 f33 4 [] (g_read_mode C_Mode) := ⟨⟨_, _, [], [], def_okA l33 c33 sc_read_mode rfl (fun cdv A outer s H E hr => der_read_mode T D_read_numbers D_headed I_Mode hr) rd_read_mode, .all (al4 fun _ _ _ _ => rfl), .nil, fun _ => .nil⟩, k33⟩
  have D_is_whole : FD l.prog w K mg base 1 f2 1 [] g_is_whole := ⟨⟨_, _, [], [], def_okA l2 c2 sc_is_whole rfl (fun cdv A outer s H E hr => der_is_whole T hr) rd_is_whole, .all (al1 fun _ => rfl), .nil, fun _ => .nil⟩, k2⟩
  have D_are_wholes : FD l.prog w K mg base 2 f5 2 [] g_are_wholes := ⟨⟨_, _, [], [], def_okA l5 c5 sc_are_wholes rfl (fun cdv A outer s H E hr => der_are_wholes T D_is_whole hr) rd_are_wholes, .all (al2 fun _ _ => rfl), .nil, fun _ => .nil⟩, k5⟩
  have D_is_row : FD l.prog w K mg base 2 f6 2 [] g_is_row := ⟨⟨_, _, [], [], def_okA l6 c6 sc_is_row rfl (fun cdv A outer s H E hr => der_is_row T D_is_whole hr) rd_is_row, .all (al2 fun _ _ => rfl), .nil, fun _ => .nil⟩, k6⟩
  have D_is_room : FD l.prog w K mg base 3 f7 2 [] g_is_room := ⟨⟨_, _, [], [], def_okA l7 c7 sc_is_room rfl (fun cdv A outer s H E hr => der_is_room T D_is_row hr) rd_is_room, .all (al2 fun _ _ => rfl), .nil, fun _ => .nil⟩, k7⟩
  have D_is_table : FD l.prog w K mg base 3 f8 3 [] g_is_table := ⟨⟨_, _, [], [], def_okA l8 c8 sc_is_table rfl (fun cdv A outer s H E hr => der_is_table T D_are_wholes hr) rd_is_table, .all (al3 fun _ _ _ => rfl), .nil, fun _ => .nil⟩, k8⟩
  have D_is_mode : FD l.prog w K mg base 4 f10 3 [] (g_is_mode C_Mode) := ⟨⟨_, _, [], [], def_okA l10 c10 sc_is_mode rfl (fun cdv A outer s H E hr => der_is_mode T D_is_whole D_are_wholes D_is_room D_is_table hr) (rd_is_mode T.kf_ThK), .all (al3 fun _ _ _ => rfl), .nil, fun _ => .nil⟩, k10⟩
  have D_is_push : FD l.prog w K mg base 2 f11 1 [] g_is_push := ⟨⟨_, _, [], [], def_okA l11 c11 sc_is_push rfl (fun cdv A outer s H E hr => der_is_push T D_is_whole hr) rd_is_push, .all (al1 fun _ => rfl), .nil, fun _ => .nil⟩, k11⟩
  have I_Thing : FI l.prog w K mg base 5 C_Thing 4 [] (g_Thing_init C_Mode C_BadThing C_TooMany) := ⟨⟨f12, _, _, [], [], def_okI (C := C_Thing) l12 c12 sc_Thing_init rfl (fun cdv A outer s H E hr => der_Thing_init T D_is_whole D_is_mode D_is_push hr) (rd_Thing_init T.kf_ThK), .all (al4 fun _ _ _ _ => rfl), .nil, fun _ => .nil, ⟨q141, a12, n12, q142⟩⟩⟩
  have D_read_thing : FD l.prog w K mg base 7 f34 1 [] (g_read_thing C_Mode C_Thing) := ⟨⟨_, _, [], [], def_okA l34 c34 sc_read_thing rfl (fun cdv A outer s H E hr => der_read_thing T D_read_numbers D_headed D_read_mode I_Thing hr) (rd_read_thing T.kf_ThK), .all (al1 fun _ => rfl), .nil, fun _ => .nil⟩, k34⟩
  have D__law_parts : FD l.prog w K mg base 2 f47 3 [] g__law_parts := ⟨⟨_, _, [], [], def_okA l47 c47 sc__law_parts rfl (fun cdv A outer s H E hr => der__law_parts T D__law_stream D__law_number hr) rd__law_parts, .all (al3 fun _ _ _ => rfl), .nil, fun _ => .nil⟩, k47⟩
  have D__law_thing_text : FD l.prog w K mg base 2 f48 3 [] g__law_thing_text := ⟨⟨_, _, [], [], def_okA l48 c48 sc__law_thing_text rfl (fun cdv A outer s H E hr => der__law_thing_text T D__law_words hr) rd__law_thing_text, .all (al3 fun _ _ _ => rfl), .nil, fun _ => .nil⟩, k48⟩
  have D__law_things : FD l.prog w K mg base 8 f49 2 [] g__law_things := ⟨⟨_, _, [], [], def_okA l49 c49 sc__law_things rfl (fun cdv A outer s H E hr => der__law_things T D_show_thing D_read_thing D__law_cell_at D__law_stream D__law_number D__law_parts D__law_thing_text M_Thing_modes M_Thing_pushes I_Mode I_Thing hr) (rd__law_things T.kf_ThK T.kf_TtK), .all (al2 fun _ _ => rfl), .nil, fun _ => .nil⟩, k49⟩
  exact def_okA l50 c50 sc_law rfl (fun cdv A outer s H E hr => der_law T D_show_rule D_read_rule D__law_cell_at D__law_tree D__law_rule D__law_rule_text D__law_same_rule D__law_claims D__law_things hr) rd_law
end K92
open PySem PySem.W PyProof.Rows in
set_option maxRecDepth 100000 in
set_option maxHeartbeats 0 in
theorem PySem.Challenge.cw_steadyhand_k92_rules_claims_things_as_te_holds : PySem.Challenge.rw_steadyhand_k92_rules_claims_things_as_te.Holds := by
  w_on; o_law; k_head; (case hw => w_witness2)
  k_fill
  refine Dl.law_end (l := PySem.Challenge.rw_steadyhand_k92_rules_claims_things_as_te) (n := 63) (k := 15) (x := "_law_script") rfl (by decide) rfl ⟨rfl, by decide, by decide⟩ (fun w h Y => PySem.W.kIn_of Y) ?F
  case F =>
    intro w mg fa h KX G hmg
    refine' K92.all_mk KX G hmg ?aC_BadThing ?aC_TooMany ?aC_Claim ?aC_Settles ?aC_Comes ?aC_Mode ?aC_Thing ?aC_Rule ?aC_Straight ?aC_Stopped ?aC_Parted ?a0 ?l0 ?c0 ?k0 ?n0 ?t0 ?a1 ?l1 ?c1 ?k1 ?n1 ?a2 ?l2 ?c2 ?k2 ?a3 ?l3 ?c3 ?k3 ?a4 ?l4 ?c4 ?k4 ?a5 ?l5 ?c5 ?k5 ?a6 ?l6 ?c6 ?k6 ?a7 ?l7 ?c7 ?k7 ?a8 ?l8 ?c8 ?k8 ?a9 ?l9 ?c9 ?k9 ?n9 ?a10 ?l10 ?c10 ?k10 ?a11 ?l11 ?c11 ?k11 ?a12 ?l12 ?c12 ?k12 ?n12 ?a13 ?l13 ?c13 ?k13 ?n13 ?a14 ?l14 ?c14 ?k14 ?n14 ?a15 ?l15 ?c15 ?k15 ?n15 ?t15 ?a16 ?l16 ?c16 ?k16 ?n16 ?a17 ?l17 ?c17 ?k17 ?n17 ?a18 ?l18 ?c18 ?k18 ?a19 ?l19 ?c19 ?k19 ?a20 ?l20 ?c20 ?k20 ?a21 ?l21 ?c21 ?k21 ?a22 ?l22 ?c22 ?k22 ?a23 ?l23 ?c23 ?k23 ?a24 ?l24 ?c24 ?k24 ?a25 ?l25 ?c25 ?k25 ?a26 ?l26 ?c26 ?k26 ?a27 ?l27 ?c27 ?k27 ?a28 ?l28 ?c28 ?k28 ?a29 ?l29 ?c29 ?k29 ?a30 ?l30 ?c30 ?k30 ?a31 ?l31 ?c31 ?k31 ?a32 ?l32 ?c32 ?k32 ?a33 ?l33 ?c33 ?k33 ?a34 ?l34 ?c34 ?k34 ?a35 ?l35 ?c35 ?k35 ?a36 ?l36 ?c36 ?k36 ?a37 ?l37 ?c37 ?k37 ?a38 ?l38 ?c38 ?k38 ?a39 ?l39 ?c39 ?k39 ?a40 ?l40 ?c40 ?k40 ?a41 ?l41 ?c41 ?k41 ?a42 ?l42 ?c42 ?k42 ?a43 ?l43 ?c43 ?k43 ?a44 ?l44 ?c44 ?k44 ?a45 ?l45 ?c45 ?k45 ?a46 ?l46 ?c46 ?k46 ?a47 ?l47 ?c47 ?k47 ?a48 ?l48 ?c48 ?k48 ?a49 ?l49 ?c49 ?k49 ?a50 ?l50 ?c50 ?k50 ?z0 ?z1 ?z2 ?z3 ?z4 ?z5 ?z6 ?z7 ?z8 ?z9 ?z10 ?z11 ?g_FIGURES ?g_MOST_FIGURES ?g_MOST_MODES ?g_MOST_NUMBERS ?g_MOST_PUSHES ?q0 ?q1 ?q2 ?q3 ?q4 ?q5 ?q6 ?q7 ?q8 ?q9 ?q10 ?q11 ?q12 ?q13 ?q14 ?q15 ?q16 ?q17 ?q18 ?q19 ?q20 ?q21 ?q22 ?q23 ?q24 ?q25 ?q26 ?q27 ?q28 ?q29 ?q30 ?q31 ?q32 ?q33 ?q34 ?q35 ?q36 ?q37 ?q38 ?q39 ?q40 ?q41 ?q42 ?q43 ?q44 ?q45 ?q46 ?q47 ?q48 ?q49 ?q50 ?q51 ?q52 ?q53 ?q54 ?q55 ?q56 ?q57 ?q58 ?q59 ?q60 ?q61 ?q62 ?q63 ?q64 ?q65 ?q66 ?q67 ?q68 ?q69 ?q70 ?q71 ?q72 ?q73 ?q74 ?q75 ?q76 ?q77 ?q78 ?q79 ?q80 ?q81 ?q82 ?q83 ?q84 ?q85 ?q86 ?q87 ?q88 ?q89 ?q90 ?q91 ?q92 ?q93 ?q94 ?q95 ?q96 ?q97 ?q98 ?q99 ?q100 ?q101 ?q102 ?q103 ?q104 ?q105 ?q106 ?q107 ?q108 ?q109 ?q110 ?q111 ?q112 ?q113 ?q114 ?q115 ?q116 ?q117 ?q118 ?q119 ?q120 ?q121 ?q122 ?q123 ?q124 ?q125 ?q126 ?q127 ?q128 ?q129 ?q130 ?q131 ?q132 ?q133 ?q134 ?q135 ?q136 ?q137 ?q138 ?q139 ?q140 ?q141 ?q142
    (case aC_BadThing => k_is)
    (case aC_TooMany => k_is)
    (case aC_Claim => k_is)
    (case aC_Settles => k_is)
    (case aC_Comes => k_is)
    (case aC_Mode => k_is)
    (case aC_Thing => k_is)
    (case aC_Rule => k_is)
    (case aC_Straight => k_is)
    (case aC_Stopped => k_is)
    (case aC_Parted => k_is)
    (case a0 => k_is)
    (case l0 => k_is)
    (case c0 => k_is)
    (case k0 => k_is)
    (case n0 => k_is)
    (case t0 => k_is)
    (case a1 => k_is)
    (case l1 => k_is)
    (case c1 => k_is)
    (case k1 => k_is)
    (case n1 => k_is)
    (case a2 => k_is)
    (case l2 => k_is)
    (case c2 => k_is)
    (case k2 => k_is)
    (case a3 => k_is)
    (case l3 => k_is)
    (case c3 => k_is)
    (case k3 => k_is)
    (case a4 => k_is)
    (case l4 => k_is)
    (case c4 => k_is)
    (case k4 => k_is)
    (case a5 => k_is)
    (case l5 => k_is)
    (case c5 => k_is)
    (case k5 => k_is)
    (case a6 => k_is)
    (case l6 => k_is)
    (case c6 => k_is)
    (case k6 => k_is)
    (case a7 => k_is)
    (case l7 => k_is)
    (case c7 => k_is)
    (case k7 => k_is)
    (case a8 => k_is)
    (case l8 => k_is)
    (case c8 => k_is)
    (case k8 => k_is)
    (case a9 => k_is)
    (case l9 => k_is)
    (case c9 => k_is)
    (case k9 => k_is)
    (case n9 => k_is)
    (case a10 => k_is)
    (case l10 => k_is)
    (case c10 => k_is)
    (case k10 => k_is)
    (case a11 => k_is)
    (case l11 => k_is)
    (case c11 => k_is)
    (case k11 => k_is)
    (case a12 => k_is)
    (case l12 => k_is)
    (case c12 => k_is)
    (case k12 => k_is)
    (case n12 => k_is)
    (case a13 => k_is)
    (case l13 => k_is)
    (case c13 => k_is)
    (case k13 => k_is)
    (case n13 => k_is)
    (case a14 => k_is)
    (case l14 => k_is)
    (case c14 => k_is)
    (case k14 => k_is)
    (case n14 => k_is)
    (case a15 => k_is)
    (case l15 => k_is)
    (case c15 => k_is)
    (case k15 => k_is)
    (case n15 => k_is)
    (case t15 => k_is)
    (case a16 => k_is)
    (case l16 => k_is)
    (case c16 => k_is)
    (case k16 => k_is)
    (case n16 => k_is)
    (case a17 => k_is)
    (case l17 => k_is)
    (case c17 => k_is)
    (case k17 => k_is)
    (case n17 => k_is)
    (case a18 => k_is)
    (case l18 => k_is)
    (case c18 => k_is)
    (case k18 => k_is)
    (case a19 => k_is)
    (case l19 => k_is)
    (case c19 => k_is)
    (case k19 => k_is)
    (case a20 => k_is)
    (case l20 => k_is)
    (case c20 => k_is)
    (case k20 => k_is)
    (case a21 => k_is)
    (case l21 => k_is)
    (case c21 => k_is)
    (case k21 => k_is)
    (case a22 => k_is)
    (case l22 => k_is)
    (case c22 => k_is)
    (case k22 => k_is)
    (case a23 => k_is)
    (case l23 => k_is)
    (case c23 => k_is)
    (case k23 => k_is)
    (case a24 => k_is)
    (case l24 => k_is)
    (case c24 => k_is)
    (case k24 => k_is)
    (case a25 => k_is)
    (case l25 => k_is)
    (case c25 => k_is)
    (case k25 => k_is)
    (case a26 => k_is)
    (case l26 => k_is)
    (case c26 => k_is)
    (case k26 => k_is)
    (case a27 => k_is)
    (case l27 => k_is)
    (case c27 => k_is)
    (case k27 => k_is)
    (case a28 => k_is)
    (case l28 => k_is)
    (case c28 => k_is)
    (case k28 => k_is)
    (case a29 => k_is)
    (case l29 => k_is)
    (case c29 => k_is)
    (case k29 => k_is)
    (case a30 => k_is)
    (case l30 => k_is)
    (case c30 => k_is)
    (case k30 => k_is)
    (case a31 => k_is)
    (case l31 => k_is)
    (case c31 => k_is)
    (case k31 => k_is)
    (case a32 => k_is)
    (case l32 => k_is)
    (case c32 => k_is)
    (case k32 => k_is)
    (case a33 => k_is)
    (case l33 => k_is)
    (case c33 => k_is)
    (case k33 => k_is)
    (case a34 => k_is)
    (case l34 => k_is)
    (case c34 => k_is)
    (case k34 => k_is)
    (case a35 => k_is)
    (case l35 => k_is)
    (case c35 => k_is)
    (case k35 => k_is)
    (case a36 => k_is)
    (case l36 => k_is)
    (case c36 => k_is)
    (case k36 => k_is)
    (case a37 => k_is)
    (case l37 => k_is)
    (case c37 => k_is)
    (case k37 => k_is)
    (case a38 => k_is)
    (case l38 => k_is)
    (case c38 => k_is)
    (case k38 => k_is)
    (case a39 => k_is)
    (case l39 => k_is)
    (case c39 => k_is)
    (case k39 => k_is)
    (case a40 => k_is)
    (case l40 => k_is)
    (case c40 => k_is)
    (case k40 => k_is)
    (case a41 => k_is)
    (case l41 => k_is)
    (case c41 => k_is)
    (case k41 => k_is)
    (case a42 => k_is)
    (case l42 => k_is)
    (case c42 => k_is)
    (case k42 => k_is)
    (case a43 => k_is)
    (case l43 => k_is)
    (case c43 => k_is)
    (case k43 => k_is)
    (case a44 => k_is)
    (case l44 => k_is)
    (case c44 => k_is)
    (case k44 => k_is)
    (case a45 => k_is)
    (case l45 => k_is)
    (case c45 => k_is)
    (case k45 => k_is)
    (case a46 => k_is)
    (case l46 => k_is)
    (case c46 => k_is)
    (case k46 => k_is)
    (case a47 => k_is)
    (case l47 => k_is)
    (case c47 => k_is)
    (case k47 => k_is)
    (case a48 => k_is)
    (case l48 => k_is)
    (case c48 => k_is)
    (case k48 => k_is)
    (case a49 => k_is)
    (case l49 => k_is)
    (case c49 => k_is)
    (case k49 => k_is)
    (case a50 => k_is)
    (case l50 => k_is)
    (case c50 => k_is)
    (case k50 => k_is)
    (case z0 => k_is)
    (case z1 => k_is)
    (case z2 => k_is)
    (case z3 => k_is)
    (case z4 => k_is)
    (case z5 => k_is)
    (case z6 => k_is)
    (case z7 => k_is)
    (case z8 => k_is)
    (case z9 => k_is)
    (case z10 => k_is)
    (case z11 => k_is)
    (case g_FIGURES => k_is)
    (case g_MOST_FIGURES => k_is)
    (case g_MOST_MODES => k_is)
    (case g_MOST_NUMBERS => k_is)
    (case g_MOST_PUSHES => k_is)
    (case q0 => k_is)
    (case q1 => k_is)
    (case q2 => k_is)
    (case q3 => k_is)
    (case q4 => k_exc)
    (case q5 => k_is)
    (case q6 => k_is)
    (case q7 => k_is)
    (case q8 => k_exc)
    (case q9 => k_is)
    (case q10 => k_is)
    (case q11 => k_is)
    (case q12 => k_is)
    (case q13 => k_is)
    (case q14 => k_is)
    (case q15 => k_is)
    (case q16 => k_is)
    (case q17 => k_is)
    (case q18 => k_is)
    (case q19 => k_is)
    (case q20 => k_is)
    (case q21 => k_is)
    (case q22 => k_is)
    (case q23 => k_is)
    (case q24 => k_is)
    (case q25 => k_is)
    (case q26 => k_is)
    (case q27 => k_is)
    (case q28 => k_is)
    (case q29 => k_is)
    (case q30 => k_is)
    (case q31 => k_is)
    (case q32 => k_is)
    (case q33 => first | rfl | k_is)
    (case q34 => first | rfl | k_is)
    (case q35 => first | rfl | decide)
    (case q36 => first | rfl | k_is)
    (case q37 => first | rfl | decide)
    (case q38 => first | rfl | k_is)
    (case q39 => first | rfl | decide)
    (case q40 => first | rfl | k_is)
    (case q41 => first | rfl | decide)
    (case q42 => first | rfl | k_is)
    (case q43 => first | rfl | decide)
    (case q44 => first | rfl | k_is)
    (case q45 => first | rfl | decide)
    (case q46 => first | rfl | k_is)
    (case q47 => first | rfl | decide)
    (case q48 => k_is)
    (case q49 => k_is)
    (case q50 => k_is)
    (case q51 => k_is)
    (case q52 => k_is)
    (case q53 => k_is)
    (case q54 => k_is)
    (case q55 => k_is)
    (case q56 => k_is)
    (case q57 => k_is)
    (case q58 => k_is)
    (case q59 => k_is)
    (case q60 => k_is)
    (case q61 => k_is)
    (case q62 => k_is)
    (case q63 => k_is)
    (case q64 => k_is)
    (case q65 => k_is)
    (case q66 => k_is)
    (case q67 => k_is)
    (case q68 => k_is)
    (case q69 => k_is)
    (case q70 => k_is)
    (case q71 => k_is)
    (case q72 => k_is)
    (case q73 => k_is)
    (case q74 => k_is)
    (case q75 => k_is)
    (case q76 => k_is)
    (case q77 => first | rfl | k_is)
    (case q78 => first | rfl | k_is)
    (case q79 => first | rfl | k_is)
    (case q80 => k_is)
    (case q81 => k_is)
    (case q82 => first | rfl | k_is)
    (case q83 => first | rfl | k_is)
    (case q84 => first | rfl | decide)
    (case q85 => k_is)
    (case q86 => k_is)
    (case q87 => first | rfl | k_is)
    (case q88 => first | rfl | k_is)
    (case q89 => first | rfl | decide)
    (case q90 => first | rfl | k_is)
    (case q91 => first | rfl | decide)
    (case q92 => k_is)
    (case q93 => k_is)
    (case q94 => first | rfl | k_is)
    (case q95 => k_is)
    (case q96 => k_is)
    (case q97 => k_is)
    (case q98 => k_is)
    (case q99 => k_is)
    (case q100 => k_is)
    (case q101 => k_is)
    (case q102 => k_is)
    (case q103 => k_is)
    (case q104 => k_is)
    (case q105 => k_is)
    (case q106 => k_is)
    (case q107 => k_is)
    (case q108 => k_is)
    (case q109 => k_is)
    (case q110 => k_is)
    (case q111 => k_is)
    (case q112 => k_is)
    (case q113 => k_is)
    (case q114 => k_is)
    (case q115 => first | rfl | k_is)
    (case q116 => k_is)
    (case q117 => k_is)
    (case q118 => first | rfl | k_is)
    (case q119 => first | rfl | decide)
    (case q120 => k_is)
    (case q121 => k_is)
    (case q122 => first | rfl | k_is)
    (case q123 => first | rfl | k_is)
    (case q124 => first | rfl | k_is)
    (case q125 => first | rfl | decide)
    (case q126 => k_is)
    (case q127 => k_is)
    (case q128 => first | rfl | k_is)
    (case q129 => k_is)
    (case q130 => k_is)
    (case q131 => k_is)
    (case q132 => k_is)
    (case q133 => k_is)
    (case q134 => k_is)
    (case q135 => k_is)
    (case q136 => k_is)
    (case q137 => k_is)
    (case q138 => k_is)
    (case q139 => k_is)
    (case q140 => k_is)
    (case q141 => k_is)
    (case q142 => k_is)
#print axioms PySem.Challenge.cw_steadyhand_k92_rules_claims_things_as_te_holds
