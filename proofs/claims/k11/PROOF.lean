import PyProof.Rows.All
import Wide.All
import OpenK.AllK
import Wide.FinOn
import HandS.ForMost
import HandS.Exc
import HandS.ExcOwn
import HandS.CallSlots
import HandS.WordsExc
import HandS.IsInst
import HandS.Walk
import HandS.TupMul
import HandS.Flow
import KE.GoesZip
import KE.GoesMore
import HandS.EndBits
import HandS.TupLe
import HandS.TryOnly
import HandS.ExcIs
import HandS.Dict
import HandS.Conv
import KE.KDictCopyH
import HandS.Defaults
import KE.OsRunLaw
import PySem.Challenge.RW_steadyhand_k11_a_thing_told
set_option Elab.async false
set_option linter.all false
set_option maxRecDepth 100000
set_option maxHeartbeats 2000000
/-! The D-layer, part 1: trees of values, how they lie in the abstract heap, environments of trees. -/
namespace Dl
/-- a fork that a reading stops at while its test is open -/
def ifP (b : Bool) (A B : Prop) : Prop := match b with
  | true => A
  | false => B
theorem ifP_t (A B : Prop) : ifP true A B = A := rfl
theorem ifP_f (A B : Prop) : ifP false A B = B := rfl
open PySem PySem.Spec
open PyProof.Rows L2

/-- a value as a tree; frl: a list that nobody writes (the script) -/
inductive D where
  | non | bl (b : Bool) | int (i : Int) | str (x : Str) | ty (n : String) | cls (C : Addr)
  | tup (ds : List D) | lst (ds : List D) | frl (ds : List D) | ins (C : Addr) (fs : List (Str × D)) | dic (kvs : List (Key × D))
  | ob (v : V)
  | mu (ds : List D)
/-- a list that is changed by nobody, one that may be changed one day, one that was there ahead of all -/
inductive Tg where
  | a | j | k
/-- what is frozen, and what its lists are -/
structure Fz where
  h : Hp
  j : Addr → Tg
  wl : ∀ p, j p = .j → ∃ vs, h p = some (.lst vs)
  wf : ∀ p, h p = none → j p = .a
instance : CoeFun Fz (fun _ => Addr → Option HO) := ⟨Fz.h⟩
instance : Coe Fz Hp := ⟨Fz.h⟩
structure SameF (F F' : Fz) : Prop where
  s : Same F.h F'.h
  j : ∀ p, F.h p ≠ none → F'.j p = F.j p
theorem SameF.refl (F : Fz) : SameF F F := ⟨Same.refl _, fun _ _ => rfl⟩
theorem SameF.trans {F F' F'' : Fz} (a : SameF F F') (b : SameF F' F'') : SameF F F'' := ⟨a.s.trans b.s, fun p h => (b.j p fun z => h (a.s.free z)).trans (a.j p h)⟩
def Fz.upd (F : Fz) (p : Addr) (o : HO) : Fz := ⟨L2.upd F.h p o, fun q => if q = p then .a else F.j q, fun q h => by
  by_cases z : q = p
  · rw [if_pos z] at h; cases h
  · rw [if_neg z] at h; rw [upd_ne z]; exact F.wl q h, fun q h => by
  by_cases z : q = p
  · rw [if_pos z]
  · rw [if_neg z]; rw [upd_ne z] at h; exact F.wf q h⟩
/-- what is frozen for good; what was there ahead of all -/
def Fz.sh (F : Fz) : Hp := fun p => match F.j p with
  | .j => none
  | _ => F.h p
def Fz.kh (F : Fz) : Hp := fun p => match F.j p with
  | .k => F.h p
  | _ => none
theorem Fz.sh_of (F : Fz) {p : Addr} (h : F.j p ≠ .j) : F.sh p = F.h p := by
  unfold Fz.sh
  cases q : F.j p <;> first | rfl | exact absurd q h
theorem Fz.kh_of (F : Fz) {p : Addr} (h : F.j p = .k) : F.kh p = F.h p := by
  unfold Fz.kh
  rw [h]
theorem Fz.kh_inv (F : Fz) {p : Addr} {o : HO} (h : F.kh p = some o) : F.j p = .k ∧ F.h p = some o := by
  unfold Fz.kh at h
  cases q : F.j p <;> rw [q] at h <;> first | cases h | exact ⟨rfl, h⟩
theorem Fz.sh_same (F : Fz) : Same F.sh F.h := fun b o e => by
  unfold Fz.sh at e
  cases q : F.j b <;> rw [q] at e <;> first | exact e | cases e
theorem Fz.kh_same (F : Fz) : Same F.kh F.h := fun b o e => (F.kh_inv e).2
theorem SameF.kh {F F' : Fz} (a : SameF F F') : Same F.kh F'.kh := fun b o e => by
  obtain ⟨q, e⟩ := F.kh_inv e
  rw [F'.kh_of ((a.j b (fun z => by rw [z] at e; cases e)).trans q)]
  exact a.s b o e
/-- the same on a greater heap -/
def Fz.up (F : Fz) (H : Hp) (e : Same F.h H) : Fz := ⟨H, F.j, fun p h => let ⟨vs, z⟩ := F.wl p h; ⟨vs, e _ _ z⟩, fun p h => F.wf p (e.free h)⟩

mutual
/-- how a tree lies in an abstract heap -/
inductive Rep (K : PySem.W.Frag) (H : Fz) : D → V → Prop
  | non : Rep K H .non .non
  | bl (b : Bool) : Rep K H (.bl b) (.bl b)
  | int (i : Int) : Rep K H (.int i) (.int i)
  | str (x : Str) : Rep K H (.str x) (.str x)
  | ty (n : String) : Rep K H (.ty n) (.ty n)
  | cls (C : Addr) : Rep K H (.cls C) (.ref C)
  | ob (v : V) : Rep K H (.ob v) v
  | tup {a : Addr} {vs : List V} {ds : List D} : H.h a = some (.tup vs) → vs.length ≤ sizeLine → Reps K H ds vs → Rep K H (.tup ds) (.ref a)
  | lst {a : Addr} {vs : List V} {ds : List D} : H.h a = some (.lst vs) → H.j a = .a → vs.length ≤ sizeLine → Reps K H ds vs → Rep K H (.lst ds) (.ref a)
  | mu {a : Addr} {vs : List V} {ds : List D} : H.h a = some (.lst vs) → H.j a = .j → vs.length ≤ sizeLine → Reps K H ds vs → Rep K H (.mu ds) (.ref a)
  | frl {a : Addr} {vs : List V} {ds : List D} : SqL K H.kh a vs → vs.length ≤ sizeLine → Reps K H ds vs → Rep K H (.frl ds) (.ref a)
  | ins {a C dx : Addr} {fvs : List (Str × V)} {fs : List (Str × D)} : H.h a = some (.ins C dx fvs) → RepF K H fs fvs → Rep K H (.ins C fs) (.ref a)
  | dic {a : Addr} {kvs : List (Key × V)} {ds : List (Key × D)} : H.h a = some (.dK kvs) → RepK K H ds kvs → Rep K H (.dic ds) (.ref a)
inductive Reps (K : PySem.W.Frag) (H : Fz) : List D → List V → Prop
  | nil : Reps K H [] []
  | cons {d : D} {v : V} {ds : List D} {vs : List V} : Rep K H d v → Reps K H ds vs → Reps K H (d :: ds) (v :: vs)
inductive RepF (K : PySem.W.Frag) (H : Fz) : List (Str × D) → List (Str × V) → Prop
  | nil : RepF K H [] []
  | cons {f : Str} {d : D} {v : V} {ds : List (Str × D)} {vs : List (Str × V)} : Rep K H d v → RepF K H ds vs → RepF K H ((f, d) :: ds) ((f, v) :: vs)
inductive RepK (K : PySem.W.Frag) (H : Fz) : List (Key × D) → List (Key × V) → Prop
  | nil : RepK K H [] []
  | cons {f : Key} {d : D} {v : V} {ds : List (Key × D)} {vs : List (Key × V)} : Rep K H d v → RepK K H ds vs → RepK K H ((f, d) :: ds) ((f, v) :: vs)
end

theorem ne_some {α : Type} {x : Option α} {o : α} (h : x = some o) : x ≠ none := fun z => by rw [h] at z; cases z
theorem same_seqT {K : PySem.W.Frag} {H H' : Hp} {a : Addr} {xs : List V} (e : Same H H') (h : SqT K H a xs) : SqT K H' a xs :=
  h.elim (fun q => .inl (q.elim (fun z => .inl (e _ _ z)) fun ⟨o, z⟩ => .inr ⟨o, e _ _ z⟩)) .inr
theorem same_seqL {K : PySem.W.Frag} {H H' : Hp} {a : Addr} {xs : List V} (e : Same H H') (h : SqL K H a xs) : SqL K H' a xs :=
  h.elim (fun q => .inl (q.elim (fun z => .inl (e _ _ z)) fun ⟨o, z⟩ => .inr ⟨o, e _ _ z⟩)) .inr
section
variable {K : PySem.W.Frag} {H H' : Fz}
mutual
theorem Rep.mono (e : SameF H H') : ∀ {d : D} {v : V}, Rep K H d v → Rep K H' d v
  | _, _, .non => .non
  | _, _, .bl b => .bl b
  | _, _, .int i => .int i
  | _, _, .str x => .str x
  | _, _, .ty n => .ty n
  | _, _, .cls C => .cls C
  | _, _, .ob v => .ob v
  | _, _, .tup s l r => .tup (e.s _ _ s) l (Reps.mono e r)
  | _, _, .lst s q l r => .lst (e.s _ _ s) ((e.j _ (ne_some s)).trans q) l (Reps.mono e r)
  | _, _, .mu s q l r => .mu (e.s _ _ s) ((e.j _ (ne_some s)).trans q) l (Reps.mono e r)
  | _, _, .frl s l r => .frl (same_seqL e.kh s) l (Reps.mono e r)
  | _, _, .ins s r => .ins (e.s _ _ s) (RepF.mono e r)
  | _, _, .dic s r => .dic (e.s _ _ s) (RepK.mono e r)
theorem Reps.mono (e : SameF H H') : ∀ {d : List D} {v : List V}, Reps K H d v → Reps K H' d v
  | _, _, .nil => .nil
  | _, _, .cons r s => .cons (Rep.mono e r) (Reps.mono e s)
theorem RepF.mono (e : SameF H H') : ∀ {d : List (Str × D)} {v : List (Str × V)}, RepF K H d v → RepF K H' d v
  | _, _, .nil => .nil
  | _, _, .cons r s => .cons (Rep.mono e r) (RepF.mono e s)
theorem RepK.mono (e : SameF H H') : ∀ {d : List (Key × D)} {v : List (Key × V)}, RepK K H d v → RepK K H' d v
  | _, _, .nil => .nil
  | _, _, .cons r s => .cons (Rep.mono e r) (RepK.mono e s)
end
theorem Reps.length : ∀ {ds : List D} {vs : List V}, Reps K H ds vs → vs.length = ds.length
  | _, _, .nil => rfl
  | _, _, .cons _ s => congrArg (· + 1) (Reps.length s)
theorem Reps.get : ∀ {ds : List D} {vs : List V} {i : Nat} {d : D}, Reps K H ds vs → ds[i]? = some d → ∃ v, vs[i]? = some v ∧ Rep K H d v
  | _, _, _, _, .nil, e => by simp at e
  | _, _, 0, _, .cons r _, e => by simp at e; subst e; exact ⟨_, rfl, r⟩
  | _, _, i + 1, d, .cons _ s, e => by
    obtain ⟨v, h1, h2⟩ := Reps.get (i := i) (d := d) s (by simpa using e)
    exact ⟨v, by simpa using h1, h2⟩
theorem Reps.get' : ∀ {ds : List D} {vs : List V} {i : Nat} {v : V}, Reps K H ds vs → vs[i]? = some v → ∃ d, ds[i]? = some d ∧ Rep K H d v
  | _, _, _, _, .nil, e => by simp at e
  | _, _, 0, _, .cons r _, e => by simp at e; subst e; exact ⟨_, rfl, r⟩
  | _, _, i + 1, d, .cons _ s, e => by
    obtain ⟨v, h1, h2⟩ := Reps.get' (i := i) (v := d) s (by simpa using e)
    exact ⟨v, by simpa using h1, h2⟩
theorem Reps.append : ∀ {ds es : List D} {vs ws : List V}, Reps K H ds vs → Reps K H es ws → Reps K H (ds ++ es) (vs ++ ws)
  | _, _, _, _, .nil, s => s
  | _, _, _, _, .cons r t, s => .cons r (Reps.append t s)
theorem Reps.take : ∀ {ds : List D} {vs : List V} (n : Nat), Reps K H ds vs → Reps K H (ds.take n) (vs.take n)
  | _, _, 0, _ => by simp only [List.take_zero]; exact .nil
  | _, _, _ + 1, .nil => .nil
  | _, _, n + 1, .cons r t => .cons r (Reps.take n t)
theorem Reps.drop : ∀ {ds : List D} {vs : List V} (n : Nat), Reps K H ds vs → Reps K H (ds.drop n) (vs.drop n)
  | _, _, 0, r => r
  | _, _, _ + 1, .nil => .nil
  | _, _, n + 1, .cons _ t => Reps.drop n t
theorem Reps.set {d : D} {v : V} (r : Rep K H d v) : ∀ {ds : List D} {vs : List V} (i : Nat), Reps K H ds vs → Reps K H (ds.set i d) (vs.set i v)
  | _, _, _, .nil => .nil
  | _, _, 0, .cons _ t => .cons r t
  | _, _, i + 1, .cons q t => .cons q (Reps.set r i t)
theorem Reps.rep {ds : List D} {vs : List V} (h : Reps K H ds vs) : ∀ k : Nat, Reps K H (List.replicate k ds).flatten (List.replicate k vs).flatten
  | 0 => .nil
  | k + 1 => by
    rw [List.replicate_succ, List.replicate_succ, List.flatten_cons, List.flatten_cons]
    exact h.append (Reps.rep h k)
theorem Reps.ints : ∀ {ns : List Int} {vs : List V}, Reps K H (ns.map D.int) vs → vs = ns.map V.int
  | [], _, .nil => rfl
  | n :: ns, _, .cons r s => by
    cases r
    rw [Reps.ints s]
    rfl
theorem Reps.bls : ∀ {ns : List Bool} {vs : List V}, Reps K H (ns.map D.bl) vs → vs = ns.map V.bl
  | [], _, .nil => rfl
  | n :: ns, _, .cons r s => by
    cases r
    rw [Reps.bls s]
    rfl
theorem RepF.look {f : Str} : ∀ {fs : List (Str × D)} {fvs : List (Str × V)} {d : D}, RepF K H fs fvs → fs.lookup f = some d → ∃ v, fvs.lookup f = some v ∧ Rep K H d v
  | _, _, _, .nil, e => by simp at e
  | (g, d0) :: fs, (_, v0) :: fvs, d, .cons r s, e => by
    rw [List.lookup_cons] at e ⊢
    cases hb : f == g with
    | true => rw [hb] at e; cases e; exact ⟨_, rfl, r⟩
    | false => rw [hb] at e; exact RepF.look s e
theorem RepF.none {f : Str} : ∀ {fs : List (Str × D)} {fvs : List (Str × V)}, RepF K H fs fvs → fs.lookup f = none → fvs.lookup f = none
  | _, _, .nil, _ => rfl
  | (g, d0) :: fs, (_, v0) :: fvs, .cons r s, e => by
    rw [List.lookup_cons] at e ⊢
    cases hb : f == g with
    | true => rw [hb] at e; cases e
    | false => rw [hb] at e; exact RepF.none s e
theorem RepF.length : ∀ {ds : List (Str × D)} {vs : List (Str × V)}, RepF K H ds vs → vs.length = ds.length
  | _, _, .nil => rfl
  | _, _, .cons _ s => congrArg (· + 1) (RepF.length s)
end

/-! ### heaps: F what is frozen, H all -/
structure Go (F : Fz) (H : Hp) (F' : Fz) (H' : Hp) : Prop where
  ff : SameF F F'
  hh : Same H H'
  fh : Same F' H'
  nn : ∀ p, F p = none → H p ≠ none → F' p = none
theorem Go.refl {F : Fz} {H : Hp} (e : Same F H) : Go F H F H := ⟨SameF.refl _, Same.refl _, e, fun _ h _ => h⟩
theorem Go.trans {F : Fz} {H : Hp} {F1 : Fz} {H1 : Hp} {F2 : Fz} {H2 : Hp} (a : Go F H F1 H1) (b : Go F1 H1 F2 H2) : Go F H F2 H2 :=
  ⟨a.ff.trans b.ff, a.hh.trans b.hh, b.fh, fun p h1 h2 => b.nn p (a.nn p h1 h2) fun z => h2 (a.hh.free z)⟩
theorem same_upd {H : Hp} {p : Addr} {o : HO} (h : H p = none) : Same H (upd H p o) := fun b u e => by
  rw [upd_ne (ne_of_none e h)]; exact e
theorem Fz.upd_h (F : Fz) (p : Addr) (o : HO) : (F.upd p o).h = L2.upd F.h p o := rfl
theorem Fz.upd_j (F : Fz) (p : Addr) (o : HO) (h : F.h p = none) (q : Addr) : (F.upd p o).j q = F.j q := by
  show (if q = p then Tg.a else F.j q) = F.j q
  by_cases z : q = p
  · rw [if_pos z, z, F.wf p h]
  · rw [if_neg z]
theorem Fz.upd_p (F : Fz) (p : Addr) (o : HO) : (F.upd p o).j p = .a := by
  show (if p = p then Tg.a else F.j p) = Tg.a
  rw [if_pos rfl]
theorem same_updF {F : Fz} {p : Addr} {o : HO} (h : F p = none) : SameF F (F.upd p o) := ⟨same_upd h, fun q _ => F.upd_j p o h q⟩
theorem Go.alloc {F : Fz} {H : Hp} {p : Addr} {o : HO} (e : Same F H) (h : H p = none) : Go F H (F.upd p o) (upd H p o) := by
  refine ⟨same_updF (e.free h), same_upd h, fun b u q => ?_, fun q h1 h2 => ?_⟩
  · rw [Fz.upd_h] at q
    by_cases z : b = p
    · subst z; rw [upd_same] at q ⊢; exact q
    · rw [upd_ne z] at q ⊢; exact e _ _ q
  · rw [Fz.upd_h, upd_ne (fun z => by rw [z] at h2; exact h2 h)]; exact h1

/-! ### environments -/
/-- a name: without a value, a tree (of what is frozen), a list of one's own, an instance that is being made -/
inductive Sl where
  | no | sh (d : D) | ow (ds : List D) | oi (C : Addr × Addr) (fs : List (Str × D)) | od (kvs : List (List Key × D))
abbrev Env' := List Sl
def Sl.own : Sl → Bool
  | .ow _ => true
  | .oi _ _ => true
  | .od _ => true
  | _ => false
/-- a dict's pairs, its keys tuples of ints and texts -/
inductive RepT (K : PySem.W.Frag) (H : Fz) : List (List Key × D) → List (List Key × V) → Prop
  | nil : RepT K H [] []
  | cons {f : List Key} {d : D} {v : V} {ds : List (List Key × D)} {vs : List (List Key × V)} : Rep K H d v → RepT K H ds vs → RepT K H ((f, d) :: ds) ((f, v) :: vs)
theorem RepT.mono {K : PySem.W.Frag} {H H' : Fz} (e : SameF H H') : ∀ {ds : List (List Key × D)} {vs : List (List Key × V)}, RepT K H ds vs → RepT K H' ds vs
  | _, _, .nil => .nil
  | _, _, .cons r s => .cons (r.mono e) (RepT.mono e s)
structure Rl (K : PySem.W.Frag) (ρ : Env') (σ : L2.St) (F : Fz) (H : Hp) : Prop where
  len : ρ.length = σ.length
  fh : Same F H
  sh : ∀ (i : Nat) (d : D), ρ[i]? = some (.sh d) → ∃ v, σ[i]? = some (some v) ∧ Rep K F d v
  ow : ∀ (i : Nat) (ds : List D), ρ[i]? = some (.ow ds) → ∃ (p : Addr) (vs : List V), σ[i]? = some (some (.ref p)) ∧ H p = some (.lst vs) ∧ F p = none ∧ vs.length ≤ sizeLine ∧ Reps K F ds vs
  oi : ∀ (i : Nat) (C : Addr × Addr) (fs : List (Str × D)), ρ[i]? = some (.oi C fs) → ∃ (p dx : Addr) (vs : List (Str × V)), σ[i]? = some (some (.ref p)) ∧ H p = some (.ins C.1 dx vs) ∧ F p = none ∧ RepF K F fs vs ∧ p = C.2
  od : ∀ (i : Nat) (kvs : List (List Key × D)), ρ[i]? = some (.od kvs) → ∃ (p : Addr) (vs : List (List Key × V)), σ[i]? = some (some (.ref p)) ∧ H p = some (.dT vs) ∧ F p = none ∧ RepT K F kvs vs
  inj : ∀ (i j : Nat) (s t : Sl) (v : V), ρ[i]? = some s → s.own = true → ρ[j]? = some t → t.own = true → σ[i]? = some (some v) → σ[j]? = some (some v) → i = j
theorem Rl.go {K : PySem.W.Frag} {ρ : Env'} {σ : L2.St} {F : Fz} {H : Hp} {F' : Fz} {H' : Hp} (r : Rl K ρ σ F H) (g : Go F H F' H') : Rl K ρ σ F' H' where
  len := r.len
  fh := g.fh
  sh := fun i d e => let ⟨v, h1, h2⟩ := r.sh i d e; ⟨v, h1, h2.mono g.ff⟩
  ow := fun i ds e => let ⟨p, vs, h1, h2, h3, h4, h5⟩ := r.ow i ds e; ⟨p, vs, h1, g.hh _ _ h2, g.nn p h3 (by rw [h2]; exact fun z => nomatch z), h4, h5.mono g.ff⟩
  oi := fun i C fs e => let ⟨p, dx, vs, h1, h2, h3, h5, h6⟩ := r.oi i C fs e; ⟨p, dx, vs, h1, g.hh _ _ h2, g.nn p h3 (by rw [h2]; exact fun z => nomatch z), h5.mono g.ff, h6⟩
  od := fun i kvs e => let ⟨p, vs, h1, h2, h3, h5⟩ := r.od i kvs e; ⟨p, vs, h1, g.hh _ _ h2, g.nn p h3 (by rw [h2]; exact fun z => nomatch z), h5.mono g.ff⟩
  inj := r.inj
/-- within a def: F0, H0 its entry; what it owns is new -/
structure Ent (K : PySem.W.Frag) (F0 : Fz) (H0 : Hp) (ρ : Env') (σ : L2.St) (F : Fz) (H : Hp) : Prop where
  rl : Rl K ρ σ F H
  go : Go F0 H0 F H
  new : ∀ (i : Nat) (s : Sl) (p : Addr), ρ[i]? = some s → s.own = true → σ[i]? = some (some (.ref p)) → H0 p = none
theorem Ent.step {K : PySem.W.Frag} {F0 : Fz} {H0 : Hp} {ρ : Env'} {σ : L2.St} {F : Fz} {H : Hp} {F' : Fz} {H' : Hp} (r : Ent K F0 H0 ρ σ F H) (g : Go F H F' H') : Ent K F0 H0 ρ σ F' H' :=
  ⟨r.rl.go g, r.go.trans g, r.new⟩

/-- read for a moment: a tree that is frozen, or a list of one's own -/
def Pk (K : PySem.W.Frag) (F : Fz) (H : Hp) (d : D) (v : V) : Prop :=
  Rep K F d v ∨ ∃ (p : Addr) (vs : List V) (ds : List D), d = .lst ds ∧ v = .ref p ∧ H p = some (.lst vs) ∧ vs.length ≤ sizeLine ∧ Reps K F ds vs ∧ F p = none
theorem Pk.go {K : PySem.W.Frag} {F : Fz} {H : Hp} {F' : Fz} {H' : Hp} {d : D} {v : V} (p : Pk K F H d v) (g : Go F H F' H') : Pk K F' H' d v :=
  p.elim (fun r => .inl (r.mono g.ff)) fun ⟨p, vs, ds, h1, h2, h3, h4, h5, h6⟩ => .inr ⟨p, vs, ds, h1, h2, g.hh _ _ h3, h4, h5.mono g.ff, g.nn p h6 (ne_some h3)⟩
theorem Pk.rep {K : PySem.W.Frag} {F : Fz} {H : Hp} {d : D} {v : V} (p : Pk K F H d v) (e : Same F H) : Rep K (F.up H e) d v := by
  have z : SameF F (F.up H e) := ⟨e, fun _ _ => rfl⟩
  rcases p with r | ⟨p, vs, ds, rfl, rfl, h3, h4, h5, h6⟩
  · exact r.mono z
  · exact .lst h3 (F.wf p h6) h4 (h5.mono z)
/-- a list's places, a tuple's -/
theorem Pk.lst {K : PySem.W.Frag} {F : Fz} {H : Hp} {ds : List D} {v : V} (p : Pk K F H (.lst ds) v) (e : Same F H) : ∃ (p : Addr) (vs : List V), v = .ref p ∧ H p = some (.lst vs) ∧ vs.length ≤ sizeLine ∧ Reps K F ds vs := by
  rcases p with r | ⟨p, vs, es, q, rfl, h3, h4, h5, h6⟩
  · cases r with
    | lst s _ l r => exact ⟨_, _, rfl, e _ _ s, l, r⟩
  · cases q; exact ⟨p, vs, rfl, h3, h4, h5⟩
theorem Pk.mu {K : PySem.W.Frag} {F : Fz} {H : Hp} {ds : List D} {v : V} (p : Pk K F H (.mu ds) v) (e : Same F H) : ∃ (p : Addr) (vs : List V), v = .ref p ∧ H p = some (.lst vs) ∧ vs.length ≤ sizeLine ∧ Reps K F ds vs := by
  rcases p with r | ⟨p, vs, es, q, rfl, h3, h4, h5⟩
  · cases r with
    | mu s _ l r => exact ⟨_, _, rfl, e _ _ s, l, r⟩
  · cases q
theorem Pk.tup {K : PySem.W.Frag} {F : Fz} {H : Hp} {ds : List D} {v : V} (p : Pk K F H (.tup ds) v) (e : Same F H) : ∃ (p : Addr) (vs : List V), v = .ref p ∧ SqT K H p vs ∧ vs.length ≤ sizeLine ∧ Reps K F ds vs := by
  rcases p with r | ⟨p, vs, es, q, rfl, h3, h4, h5⟩
  · cases r with
    | tup s l r => exact ⟨_, _, rfl, SqT.of (e _ _ s), l, r⟩
  · cases q
theorem Pk.frl {K : PySem.W.Frag} {F : Fz} {H : Hp} {ds : List D} {v : V} (p : Pk K F H (.frl ds) v) (e : Same F H) : ∃ (p : Addr) (vs : List V), v = .ref p ∧ SqL K H p vs ∧ vs.length ≤ sizeLine ∧ Reps K F ds vs := by
  rcases p with r | ⟨p, vs, es, q, rfl, h3, h4, h5⟩
  · cases r with
    | frl s l r => exact ⟨_, _, rfl, same_seqL e (same_seqL F.kh_same s), l, r⟩
  · cases q
theorem Pk.int {K : PySem.W.Frag} {F : Fz} {H : Hp} {i : Int} {v : V} (p : Pk K F H (.int i) v) : v = .int i := by
  rcases p with r | ⟨p, vs, es, q, rfl, h3, h4, h5⟩
  · cases r; rfl
  · cases q
theorem Pk.bl {K : PySem.W.Frag} {F : Fz} {H : Hp} {i : Bool} {v : V} (p : Pk K F H (.bl i) v) : v = .bl i := by
  rcases p with r | ⟨p, vs, es, q, rfl, h3, h4, h5⟩
  · cases r; rfl
  · cases q
theorem Pk.str {K : PySem.W.Frag} {F : Fz} {H : Hp} {i : Str} {v : V} (p : Pk K F H (.str i) v) : v = .str i := by
  rcases p with r | ⟨p, vs, es, q, rfl, h3, h4, h5⟩
  · cases r; rfl
  · cases q
/-- how an exception lies: an instance of its class -/
inductive XRep (K : PySem.W.Frag) (F : Fz) (H : Hp) : D → Value → Option Addr → Prop
  | bare (C : Addr) : XRep K F H (.ins C []) (.ref C) none
  | full {C dx : Addr} {fvs : List (Str × V)} {fs : List (Str × D)} : fs ≠ [] → H dx = some (.xd fvs) → RepF K F fs fvs → XRep K F H (.ins C fs) (.ref C) (some dx)

/-! ### what a tree is worth as data, for == -/
mutual
def D.py : D → PyData
  | .non => .none
  | .bl b => .bool b
  | .int i => .int i
  | .str x => .str x
  | .tup ds => .tuple (D.pys ds)
  | .lst ds => .list (D.pys ds)
  | .mu ds => .list (D.pys ds)
  | .frl ds => .list (D.pys ds)
  | .ty _ => .none
  | .cls _ => .none
  | .ins _ _ => .none
  | .dic _ => .none
  | .ob _ => .none
def D.pys : List D → List PyData
  | [] => []
  | d :: ds => D.py d :: D.pys ds
end
mutual
/-- None, truths, ints, texts, and lists and tuples of these -/
def D.flat : D → Bool
  | .non => true
  | .bl _ => true
  | .int _ => true
  | .str _ => true
  | .tup ds => D.flats ds
  | .lst ds => D.flats ds
  | .mu ds => D.flats ds
  | .frl ds => D.flats ds
  | .ty _ => false
  | .cls _ => false
  | .ins _ _ => false
  | .dic _ => false
  | .ob _ => false
def D.flats : List D → Bool
  | [] => true
  | d :: ds => D.flat d && D.flats ds
end
mutual
theorem Rep.dp {K : PySem.W.Frag} {H : Fz} : ∀ {d : D} {v : V}, Rep K H d v → d.flat = true → Dp K H.h v d.py
  | _, _, .non, _ => by unfold D.py; exact .non
  | _, _, .bl b, _ => by unfold D.py; exact .bl b
  | _, _, .int i, _ => by unfold D.py; exact .int i
  | _, _, .str x, _ => by unfold D.py; exact .str x
  | _, _, .tup s l r, h => by unfold D.py; unfold D.flat at h; exact .tup (SqT.of s) (Reps.dp r h)
  | _, _, .lst s _ l r, h => by unfold D.py; unfold D.flat at h; exact .lst (SqL.of s) (Reps.dp r h)
  | _, _, .mu s _ l r, h => by unfold D.py; unfold D.flat at h; exact .lst (SqL.of s) (Reps.dp r h)
  | _, _, .frl s l r, h => by unfold D.py; unfold D.flat at h; exact .lst (same_seqL H.kh_same s) (Reps.dp r h)
  | _, _, .ty n, h => by unfold D.flat at h; cases h
  | _, _, .cls n, h => by unfold D.flat at h; cases h
  | _, _, .ins s r, h => by unfold D.flat at h; cases h
  | _, _, .dic s r, h => by unfold D.flat at h; cases h
  | _, _, .ob v, h => by unfold D.flat at h; cases h
theorem Reps.dp {K : PySem.W.Frag} {H : Fz} : ∀ {d : List D} {v : List V}, Reps K H d v → D.flats d = true → DpAll K H.h v (D.pys d)
  | _, _, .nil, _ => by unfold D.pys; exact .nil
  | _, _, .cons r s, h => by
    unfold D.pys; unfold D.flats at h; rw [Bool.and_eq_true] at h
    exact .cons (Rep.dp r h.1) (Reps.dp s h.2)
end
end Dl

/-! The D-layer, part 2: expressions. A reading takes the names' trees, what is wanted of the value, what is wanted of an exception. -/
namespace Dl
open PySem PySem.Spec
open PyProof.Rows L2
abbrev EQ := D → Prop
abbrev TD := Env' → EQ → EQ → Prop
abbrev TDs := Env' → (List D → Prop) → EQ → Prop
abbrev TDb := Env' → (Bool → Prop) → EQ → Prop
/-- what is wanted of an exception, met at these names and heaps -/
def XP (K : PySem.W.Frag) (W : WX) (σ : L2.St) (F : Fz) (H : Hp) (E : EQ) : Prop :=
  ∀ (x : D) (cls : Value) (dx : Option Addr) (F' : Fz) (H' : Hp), Go F H F' H' → XRep K F' H' x cls dx → E x → W cls dx σ H'
theorem XP.go {K : PySem.W.Frag} {W : WX} {σ : L2.St} {F : Fz} {H : Hp} {F1 : Fz} {H1 : Hp} {E : EQ} (h : XP K W σ F H E) (g : Go F H F1 H1) : XP K W σ F1 H1 E :=
  fun x cls dx F' H' g' r e => h x cls dx F' H' (g.trans g') r e
/-- an expression -/
structure RE (X : Cx) (W : WX) (e : Expr) (t : TD) : Prop where
  run : ∃ te, PE X e te ∧ ∀ (ρ : Env') (σ : L2.St) (F : Fz) (H : Hp) (Qd E : EQ) (Q : VK), Rl X.K ρ σ F H → XP X.K W σ F H E →
    (∀ d v F' H', Go F H F' H' → Rep X.K F' d v → Qd d → Q v H') → t ρ Qd E → te σ H Q
/-- an expression that is read for a moment -/
structure RP (X : Cx) (W : WX) (e : Expr) (t : TD) : Prop where
  run : ∃ te, PE X e te ∧ ∀ (ρ : Env') (σ : L2.St) (F : Fz) (H : Hp) (Qd E : EQ) (Q : VK), Rl X.K ρ σ F H → XP X.K W σ F H E →
    (∀ d v F' H', Go F H F' H' → Pk X.K F' H' d v → Qd d → Q v H') → t ρ Qd E → te σ H Q
/-- arguments -/
structure RA (X : Cx) (W : WX) (es : List Expr) (t : TDs) : Prop where
  run : ∃ ta, PA X es ta ∧ ∀ (ρ : Env') (σ : L2.St) (F : Fz) (H : Hp) (Qd : List D → Prop) (E : EQ) (Q : List V → Hp → Prop), Rl X.K ρ σ F H → XP X.K W σ F H E →
    (∀ ds vs F' H', Go F H F' H' → Reps X.K F' ds vs → Qd ds → Q vs H') → t ρ Qd E → ta σ H Q
inductive Pks (K : PySem.W.Frag) (F : Fz) (H : Hp) : List D → List V → Prop
  | nil : Pks K F H [] []
  | cons {d : D} {v : V} {ds : List D} {vs : List V} : Pk K F H d v → Pks K F H ds vs → Pks K F H (d :: ds) (v :: vs)
theorem Pks.go {K : PySem.W.Frag} {F : Fz} {H : Hp} {F' : Fz} {H' : Hp} (g : Go F H F' H') : ∀ {ds : List D} {vs : List V}, Pks K F H ds vs → Pks K F' H' ds vs
  | _, _, .nil => .nil
  | _, _, .cons p q => .cons (p.go g) (Pks.go g q)
/-- arguments that are read for a moment -/
structure RPA (X : Cx) (W : WX) (es : List Expr) (t : TDs) : Prop where
  run : ∃ ta, PA X es ta ∧ ∀ (ρ : Env') (σ : L2.St) (F : Fz) (H : Hp) (Qd : List D → Prop) (E : EQ) (Q : List V → Hp → Prop), Rl X.K ρ σ F H → XP X.K W σ F H E →
    (∀ ds vs F' H', Go F H F' H' → Pks X.K F' H' ds vs → Qd ds → Q vs H') → t ρ Qd E → ta σ H Q
/-- tests -/
structure RT (X : Cx) (W : WX) (e : Expr) (t : TDb) : Prop where
  run : ∃ tt, PT X e tt ∧ ∀ (ρ : Env') (σ : L2.St) (F : Fz) (H : Hp) (Qd : Bool → Prop) (E : EQ) (Q : Bool → Hp → Prop), Rl X.K ρ σ F H → XP X.K W σ F H E →
    (∀ b F' H', Go F H F' H' → Qd b → Q b H') → t ρ Qd E → tt σ H Q
structure RW (X : Cx) (W : WX) (e : Expr) (t : TDb) : Prop where
  run : ∃ tt, PW X e tt ∧ ∀ (ρ : Env') (σ : L2.St) (F : Fz) (H : Hp) (Qd : Bool → Prop) (E : EQ) (Q : Bool → Hp → Prop), Rl X.K ρ σ F H → XP X.K W σ F H E →
    (∀ b F' H', Go F H F' H' → Qd b → Q b H') → t ρ Qd E → tt σ H Q
section
variable {X : Cx} {W : WX} {e a b c : Expr} {es : List Expr} {t ta tb tc : TD} {ts : TDs} {pos : Pos}
theorem RE.p (h : RE X W e t) : RP X W e t := by
  obtain ⟨te, h1, h2⟩ := h.run
  exact ⟨te, h1, fun ρ σ F H Qd E Q r x k q => h2 ρ σ F H Qd E Q r x (fun d v F' H' g rp qd => k d v F' H' g (.inl rp) qd) q⟩
/-! ### names and constants -/
def dVar (i : Nat) : TD := fun ρ Q _ => match ρ[i]? with
  | some (.sh d) => Q d
  | _ => False
def dVarP (i : Nat) : TD := fun ρ Q _ => match ρ[i]? with
  | some (.sh d) => Q d
  | some (.ow ds) => Q (.lst ds)
  | _ => False
def dC (d : D) : TD := fun _ Q _ => Q d
theorem re_var (i : Nat) {x : Str} (hN : X.N[i]? = some x := by rfl) (hv : Vis X.env.scope x := by first | exact Or.inl rfl | exact Or.inr (Or.inl rfl) | exact Or.inr (Or.inr rfl)) (hd : (x == ("__debug__" : Str)) = false := by decide) (hcd : (x == ("__classdict__" : Str)) = false := by decide) : RE X W (.Name x pos) (dVar i) := by
  refine ⟨tVar i, pe_var hN hv hd hcd, fun ρ σ F H Qd E Q r xp k q => ?_⟩
  unfold dVar at q
  split at q
  · rename_i d e
    obtain ⟨v, h1, h2⟩ := r.sh i d e
    exact ⟨v, h1, k d v F H (.refl r.fh) h2 q⟩
  · exact q.elim
theorem rp_var (i : Nat) {x : Str} (hN : X.N[i]? = some x := by rfl) (hv : Vis X.env.scope x := by first | exact Or.inl rfl | exact Or.inr (Or.inl rfl) | exact Or.inr (Or.inr rfl)) (hd : (x == ("__debug__" : Str)) = false := by decide) (hcd : (x == ("__classdict__" : Str)) = false := by decide) : RP X W (.Name x pos) (dVarP i) := by
  refine ⟨tVar i, pe_var hN hv hd hcd, fun ρ σ F H Qd E Q r xp k q => ?_⟩
  unfold dVarP at q
  split at q
  · rename_i d e
    obtain ⟨v, h1, h2⟩ := r.sh i d e
    exact ⟨v, h1, k d v F H (.refl r.fh) (.inl h2) q⟩
  · rename_i ds e
    obtain ⟨p, vs, h1, h2, h3, h4, h5⟩ := r.ow i ds e
    exact ⟨_, h1, k _ _ F H (.refl r.fh) (.inr ⟨p, vs, ds, rfl, rfl, h2, h4, h5, h3⟩) q⟩
  · exact q.elim
theorem re_int {i j} : RE X W (.Constant (.int i) j pos) (dC (.int i)) := ⟨_, pe_int, fun ρ σ F H Qd E Q r xp k q => k _ _ F H (.refl r.fh) (.int i) q⟩
theorem re_bl {i j} : RE X W (.Constant (.bool i) j pos) (dC (.bl i)) := ⟨_, pe_bl, fun ρ σ F H Qd E Q r xp k q => k _ _ F H (.refl r.fh) (.bl i) q⟩
/-- a name of the module: an int, a text, a class -/
def GlobD : D → Value → Prop
  | .int i, u => ∃ t, u = .int i t
  | .str x, u => ∃ t, u = .str x t
  | .cls C, u => u = .ref C
  | .ty n, u => u = .type n
  | _, _ => False
theorem re_glob {x : Str} {d : D} {u : Value} (hm : X.mg x = some u) (r : GlobD d u) (hg : Gl X x := by rfl) (hd : (x == ("__debug__" : Str)) = false := by decide) : RE X W (.Name x pos) (dC d) := by
  cases d with
  | int i => exact ⟨_, pe_glob (v := .int i) hg hm r hd, fun ρ σ F H Qd E Q r xp k q => k _ _ F H (.refl r.fh) (.int i) q⟩
  | str i => exact ⟨_, pe_glob (v := .str i) hg hm r hd, fun ρ σ F H Qd E Q r xp k q => k _ _ F H (.refl r.fh) (.str i) q⟩
  | cls i => exact ⟨_, pe_glob (v := .ref i) hg hm r hd, fun ρ σ F H Qd E Q r xp k q => k _ _ F H (.refl r.fh) (.cls i) q⟩
  | ty i => exact ⟨_, pe_glob (v := .ty i) hg hm r hd, fun ρ σ F H Qd E Q r xp k q => k _ _ F H (.refl r.fh) (.ty i) q⟩
  | _ => exact r.elim
/-- a built-in type as a value -/
theorem re_ty {x : Str} {n : String} (hm : X.mg x = none) (hv : bootBuiltins x = some (.type n)) (hg : Gl X x := by rfl) (hn : x ≠ "__name__" := by decide) (hd : (x == ("__debug__" : Str)) = false := by decide) : RE X W (.Name x pos) (dC (.ty n)) :=
  ⟨_, pe_bltn (v := .ty n) hg hm hv rfl hn hd, fun ρ σ F H Qd E Q r xp k q => k _ _ F H (.refl r.fh) (.ty n) q⟩

/-! ### operators -/
/-- an operator by trees -/
abbrev KD := D → D → EQ → Prop
def OpD (X : Cx) (f : Value → Value → Sem Value) (k : KD) : Prop :=
  ∃ r, OpR X f r ∧ ∀ (x y : D) (vx vy : V) (F : Fz) (H : Hp) (Qd : EQ) (Q : VK), Same F H → Pk X.K F H x vx → Pk X.K F H y vy →
    (∀ d v F' H', Go F H F' H' → Rep X.K F' d v → Qd d → Q v H') → k x y Qd → r vx vy H Q
def dOp (k : KD) (ta tb : TD) : TD := fun ρ Q E => ta ρ (fun x => tb ρ (fun y => k x y Q) E) E
theorem op_core {r : R2} {k : KD} {te1 te2 : TE} {ρ : Env'} {σ : L2.St} {F : Fz} {H : Hp} {Qd E : EQ} {Q : VK}
    (ha : ∀ (ρ : Env') (σ : L2.St) (F : Fz) (H : Hp) (Qd E : EQ) (Q : VK), Rl X.K ρ σ F H → XP X.K W σ F H E → (∀ d v F' H', Go F H F' H' → Pk X.K F' H' d v → Qd d → Q v H') → ta ρ Qd E → te1 σ H Q)
    (hb : ∀ (ρ : Env') (σ : L2.St) (F : Fz) (H : Hp) (Qd E : EQ) (Q : VK), Rl X.K ρ σ F H → XP X.K W σ F H E → (∀ d v F' H', Go F H F' H' → Pk X.K F' H' d v → Qd d → Q v H') → tb ρ Qd E → te2 σ H Q)
    (ho : ∀ (x y : D) (vx vy : V) (F : Fz) (H : Hp) (Qd : EQ) (Q : VK), Same F H → Pk X.K F H x vx → Pk X.K F H y vy → (∀ d v F' H', Go F H F' H' → Rep X.K F' d v → Qd d → Q v H') → k x y Qd → r vx vy H Q)
    (rl : Rl X.K ρ σ F H) (xp : XP X.K W σ F H E) (kk : ∀ d v F' H', Go F H F' H' → Rep X.K F' d v → Qd d → Q v H') (q : dOp k ta tb ρ Qd E) : tOp r te1 te2 σ H Q := by
  refine ha ρ σ F H _ E _ rl xp (fun x vx F1 H1 g1 px q1 => ?_) q
  refine hb ρ σ F1 H1 _ E _ (rl.go g1) (xp.go g1) (fun y vy F2 H2 g2 py q2 => ?_) q1
  exact ho x y vx vy F2 H2 Qd Q g2.fh (px.go g2) py (fun d v F' H' g r qd => kk d v F' H' ((g1.trans g2).trans g) r qd) q2
theorem re_op {op : Operator} {k : KD} (ho : OpD X (binaryOp op) k) (ha : RP X W a ta) (hb : RP X W b tb) : RE X W (.BinOp a op b pos) (dOp k ta tb) := by
  obtain ⟨r, o1, o2⟩ := ho
  obtain ⟨te1, a1, a2⟩ := ha.run
  obtain ⟨te2, b1, b2⟩ := hb.run
  exact ⟨_, pe_op o1 a1 b1, fun ρ σ F H Qd E Q rl xp kk q => op_core a2 b2 o2 rl xp kk q⟩
theorem re_cmp {op : CmpOp} {k : KD} (ho : OpD X (compareOp op) k) (ha : RP X W a ta) (hb : RP X W b tb) (hm : behindInMarks op b = false := by first | exact nomark _ | rfl) : RE X W (.Compare a [op] [b] pos) (dOp k ta tb) := by
  obtain ⟨r, o1, o2⟩ := ho
  obtain ⟨te1, a1, a2⟩ := ha.run
  obtain ⟨te2, b1, b2⟩ := hb.run
  exact ⟨_, pe_cmpR o1 a1 b1 hm, fun ρ σ F H Qd E Q rl xp kk q => op_core a2 b2 o2 rl xp kk q⟩
/-- where a truth is wanted -/
def asB (Q : Bool → Prop) : EQ
  | .bl c => Q c
  | _ => False
def dTest (t : TD) : TDb := fun ρ Q E => t ρ (asB Q) E
theorem asB_inv {Q : Bool → Prop} {d : D} (h : asB Q d) : ∃ c, d = .bl c ∧ Q c := by
  cases d <;> first | exact ⟨_, rfl, h⟩ | exact False.elim h
theorem rt_cmp {op : CmpOp} {k : KD} (ho : OpD X (compareOp op) k) (ha : RP X W a ta) (hb : RP X W b tb) (hm : behindInMarks op b = false := by first | exact nomark _ | rfl) : RT X W (.Compare a [op] [b] pos) (dTest (dOp k ta tb)) := by
  obtain ⟨r, o1, o2⟩ := ho
  obtain ⟨te1, a1, a2⟩ := ha.run
  obtain ⟨te2, b1, b2⟩ := hb.run
  refine ⟨_, pt_cmpR o1 a1 b1 hm, fun ρ σ F H Qd E Q rl xp kk q => op_core a2 b2 o2 rl xp (fun d v F' H' g rp qd => ?_) q⟩
  obtain ⟨c, rfl, qc⟩ := asB_inv qd
  cases rp
  exact ⟨c, rfl, kk c F' H' g qc⟩
/-- a value that is a truth, as a test -/
theorem rt_val (h : RP X W e t) (he : ∀ whole, isTrue e X.env whole = (do let v ← whole; standAt e.pos; holding [v] (truthy v)) := by intro _; rfl) : RT X W e (dTest t) := by
  obtain ⟨te, h1, h2⟩ := h.run
  refine ⟨_, pt_val h1 he, fun ρ σ F H Qd E Q rl xp kk q => h2 ρ σ F H _ E _ rl xp (fun d v F' H' g rp qd => ?_) q⟩
  obtain ⟨c, rfl, qc⟩ := asB_inv qd
  cases rp.bl
  exact ⟨c, rfl, kk c F' H' g qc⟩
def dNot (t : TDb) : TDb := fun ρ Q E => t ρ (fun c => Q (!c)) E
theorem rt_not {t : TDb} (h : RT X W a t) : RT X W (.UnaryOp .Not a pos) (dNot t) := by
  obtain ⟨te, h1, h2⟩ := h.run
  exact ⟨_, pt_not h1, fun ρ σ F H Qd E Q rl xp kk q => h2 ρ σ F H _ E _ rl xp (fun c F' H' g qd => kk _ F' H' g qd) q⟩
variable {tA tB : TDb} {rest : List Expr}
theorem RW.toT {t : TDb} (h : RW X W e t) : RT X W e t := by
  obtain ⟨te, h1, h2⟩ := h.run
  exact ⟨te, h1.pt, h2⟩
def dOr (t u : TDb) : TDb := fun ρ Q E => t ρ (fun c => ifP c (Q true) (u ρ Q E)) E
theorem rw_or1 (h : RT X W a tA) : RW X W (.BoolOp .Or [a] pos) tA := by
  obtain ⟨te, h1, h2⟩ := h.run
  exact ⟨te, pw_or1 h1, h2⟩
theorem rw_or (ha : RT X W a tA) (hb : RW X W (.BoolOp .Or (b :: rest) pos) tB) : RW X W (.BoolOp .Or (a :: b :: rest) pos) (dOr tA tB) := by
  obtain ⟨te, h1, h2⟩ := ha.run
  obtain ⟨te', h1', h2'⟩ := hb.run
  refine ⟨_, pw_or h1 h1', fun ρ σ F H Qd E Q rl xp kk q => h2 ρ σ F H _ E _ rl xp (fun c F' H' g qd => ?_) q⟩
  cases c with
  | false => exact h2' ρ σ F' H' Qd E Q (rl.go g) (xp.go g) (fun c F2 H2 g2 q2 => kk c F2 H2 (g.trans g2) q2) qd
  | true => exact kk _ F' H' g qd
/-- and, or, not as values: all but the last are truths -/
def dAndV (ta tb : TD) : TD := fun ρ Q E => ta ρ (asB fun c => ifP c (tb ρ Q E) (Q (.bl false))) E
def dNotV (ta : TD) : TD := fun ρ Q E => ta ρ (asB fun c => Q (.bl (!c))) E
theorem re_one {op} (h : RE X W a t) : RE X W (.BoolOp op [a] pos) t := by
  obtain ⟨te, h1, h2⟩ := h.run
  exact ⟨te, pe_one h1, h2⟩
theorem re_and (ha : RP X W a ta) (hb : RE X W (.BoolOp .And (b :: rest) pos) tb) : RE X W (.BoolOp .And (a :: b :: rest) pos) (dAndV ta tb) := by
  obtain ⟨te, h1, h2⟩ := ha.run
  obtain ⟨te', h1', h2'⟩ := hb.run
  refine ⟨_, pe_and h1 h1', fun ρ σ F H Qd E Q rl xp kk q => h2 ρ σ F H _ E _ rl xp (fun d v F' H' g rp qd => ?_) q⟩
  obtain ⟨c, rfl, qc⟩ := asB_inv qd
  cases rp.bl
  refine ⟨c, rfl, ?_⟩
  cases c with
  | true => exact h2' ρ σ F' H' Qd E Q (rl.go g) (xp.go g) (fun c v F2 H2 g2 r2 q2 => kk c v F2 H2 (g.trans g2) r2 q2) qc
  | false => exact kk _ _ F' H' g (.bl false) qc
theorem re_not (ha : RP X W a ta) : RE X W (.UnaryOp .Not a pos) (dNotV ta) := by
  obtain ⟨te, h1, h2⟩ := ha.run
  refine ⟨_, pe_not h1, fun ρ σ F H Qd E Q rl xp kk q => h2 ρ σ F H _ E _ rl xp (fun d v F' H' g rp qd => ?_) q⟩
  obtain ⟨c, rfl, qc⟩ := asB_inv qd
  cases rp.bl
  exact ⟨c, rfl, kk _ _ F' H' g (.bl _) qc⟩
end

/-! ### arguments, displays -/
section
variable {X : Cx} {W : WX} {e : Expr} {es : List Expr} {t : TD} {ts : TDs} {pos : Pos}
def dNil : TDs := fun _ Q _ => Q []
def dCons (t : TD) (u : TDs) : TDs := fun ρ Q E => t ρ (fun x => u ρ (fun xs => Q (x :: xs)) E) E
theorem ra_nil : RA X W [] dNil := ⟨_, pa_nil, fun ρ σ F H Qd E Q rl xp kk q => kk [] [] F H (.refl rl.fh) .nil q⟩
theorem ra_cons (h : RE X W e t) (hr : RA X W es ts) (hs : starEach (e :: es) X.env = (false, eval e X.env) :: starEach es X.env := by rfl) : RA X W (e :: es) (dCons t ts) := by
  obtain ⟨te, h1, h2⟩ := h.run
  obtain ⟨te1, a1, a2⟩ := hr.run
  refine ⟨_, pa_cons h1 a1 hs, fun ρ σ F H Qd E Q rl xp kk q => h2 ρ σ F H _ E _ rl xp (fun d v F1 H1 g1 r1 q1 => ?_) q⟩
  exact a2 ρ σ F1 H1 _ E _ (rl.go g1) (xp.go g1) (fun ds vs F2 H2 g2 r2 q2 => kk _ _ F2 H2 (g1.trans g2) (.cons (r1.mono g2.ff) r2) q2) q1
theorem rpa_nil : RPA X W [] dNil := ⟨_, pa_nil, fun ρ σ F H Qd E Q rl xp kk q => kk [] [] F H (.refl rl.fh) .nil q⟩
theorem rpa_cons (h : RP X W e t) (hr : RPA X W es ts) (hs : starEach (e :: es) X.env = (false, eval e X.env) :: starEach es X.env := by rfl) : RPA X W (e :: es) (dCons t ts) := by
  obtain ⟨te, h1, h2⟩ := h.run
  obtain ⟨te1, a1, a2⟩ := hr.run
  refine ⟨_, pa_cons h1 a1 hs, fun ρ σ F H Qd E Q rl xp kk q => h2 ρ σ F H _ E _ rl xp (fun d v F1 H1 g1 r1 q1 => ?_) q⟩
  exact a2 ρ σ F1 H1 _ E _ (rl.go g1) (xp.go g1) (fun ds vs F2 H2 g2 r2 q2 => kk _ _ F2 H2 (g1.trans g2) (.cons (r1.go g2) r2) q2) q1
theorem Go.lst {K : PySem.W.Frag} {F : Fz} {H : Hp} {ds : List D} {vs : List V} (e : Same F H) (r : Reps K F ds vs) (z : vs.length ≤ sizeLine) {p : Addr} (np : H p = none) : Go F H (F.upd p (.lst vs)) (upd H p (.lst vs)) ∧ Rep K (F.upd p (.lst vs)) (.lst ds) (.ref p) :=
  ⟨.alloc e np, .lst upd_same (F.upd_p p _) z (r.mono (same_updF (e.free np)))⟩
theorem Go.tup {K : PySem.W.Frag} {F : Fz} {H : Hp} {ds : List D} {vs : List V} (e : Same F H) (r : Reps K F ds vs) (z : vs.length ≤ sizeLine) {p : Addr} (np : H p = none) : Go F H (F.upd p (.tup vs)) (upd H p (.tup vs)) ∧ Rep K (F.upd p (.tup vs)) (.tup ds) (.ref p) :=
  ⟨.alloc e np, .tup upd_same z (r.mono (same_updF (e.free np)))⟩
/-- lists and tuples of fewer than so many things -/
def few (ds : List D) : Prop := ds.length ≤ 16777216
theorem few_line {K : PySem.W.Frag} {F : Fz} {ds : List D} {vs : List V} (r : Reps K F ds vs) (h : few ds) : vs.length ≤ sizeLine := by
  rw [r.length, sizeLine_eq]; exact h
def dTup (ts : TDs) : TD := fun ρ Q E => ts ρ (fun ds => few ds ∧ Q (.tup ds)) E
def dLst (ts : TDs) : TD := fun ρ Q E => ts ρ (fun ds => few ds ∧ Q (.lst ds)) E
theorem re_tup {j} (h : RA X W es ts) : RE X W (.Tuple es j pos) (dTup ts) := by
  obtain ⟨te, h1, h2⟩ := h.run
  refine ⟨_, pe_tup h1, fun ρ σ F H Qd E Q rl xp kk q => h2 ρ σ F H _ E _ rl xp (fun ds vs F1 H1 g1 r1 q1 => ⟨few_line r1 q1.1, fun p np => ?_⟩) q⟩
  obtain ⟨g, r⟩ := Go.tup g1.fh r1 (few_line r1 q1.1) np
  exact kk _ _ _ _ (g1.trans g) r q1.2
theorem re_lst (h : RA X W es ts) : RE X W (.List es pos) (dLst ts) := by
  obtain ⟨te, h1, h2⟩ := h.run
  refine ⟨_, pe_lst h1, fun ρ σ F H Qd E Q rl xp kk q => h2 ρ σ F H _ E _ rl xp (fun ds vs F1 H1 g1 r1 q1 => ⟨few_line r1 q1.1, fun p np => ?_⟩) q⟩
  obtain ⟨g, r⟩ := Go.lst g1.fh r1 (few_line r1 q1.1) np
  exact kk _ _ _ _ (g1.trans g) r q1.2
end

/-! ### operators of ints, texts, lists, tuples -/
section
variable {X : Cx}
theorem opd_rI {f : Value → Value → Sem Value} {C : Int → Int → Prop} {g : Int → Int → V} {k : KD} (o : OpR X f (rI C g))
    (h : ∀ (x y : D) (Q : EQ), k x y Q → ∃ i j d, x = .int i ∧ y = .int j ∧ C i j ∧ (∀ K F, Rep K F d (g i j)) ∧ Q d) : OpD X f k := by
  refine ⟨_, o, fun x y vx vy F H Qd Q e px py kk q => ?_⟩
  obtain ⟨i, j, d, rfl, rfl, c, r, q⟩ := h x y Qd q
  exact ⟨i, j, px.int, py.int, c, kk _ _ F H (.refl e) (r _ _) q⟩
theorem opd_rI0 {f : Value → Value → Sem Value} {g : Int → Int → V} {k : KD} (o : OpR X f (rI0 g))
    (h : ∀ (x y : D) (Q : EQ), k x y Q → ∃ i j d, x = .int i ∧ y = .int j ∧ (∀ K F, Rep K F d (g i j)) ∧ Q d) : OpD X f k := by
  refine ⟨_, o, fun x y vx vy F H Qd Q e px py kk q => ?_⟩
  obtain ⟨i, j, d, rfl, rfl, r, q⟩ := h x y Qd q
  exact ⟨i, j, px.int, py.int, kk _ _ F H (.refl e) (r _ _) q⟩
theorem OpD.or {f : Value → Value → Sem Value} {k k' : KD} (h : OpD X f k) (h' : OpD X f k') : OpD X f (fun x y Q => k x y Q ∨ k' x y Q) := by
  obtain ⟨r, o1, o2⟩ := h
  obtain ⟨r', o1', o2'⟩ := h'
  refine ⟨_, o1.or o1', fun x y vx vy F H Qd Q e px py kk q => ?_⟩
  exact q.elim (fun z => .inl (o2 x y vx vy F H Qd Q e px py kk z)) fun z => .inr (o2' x y vx vy F H Qd Q e px py kk z)
theorem OpD.imp {f : Value → Value → Sem Value} {k k' : KD} (h : OpD X f k) (i : ∀ x y Q, k' x y Q → k x y Q) : OpD X f k' := by
  obtain ⟨r, o1, o2⟩ := h
  exact ⟨r, o1, fun x y vx vy F H Qd Q e px py kk q => o2 x y vx vy F H Qd Q e px py kk (i _ _ _ q)⟩
/-- two ints, then -/
def k2 (g : Int → Int → EQ → Prop) : KD := fun x y Q => match x, y with
  | .int i, .int j => g i j Q
  | _, _ => False
theorem k2_inv {g : Int → Int → EQ → Prop} {x y : D} {Q : EQ} (h : k2 g x y Q) : ∃ i j, x = .int i ∧ y = .int j ∧ g i j Q := by
  cases x <;> cases y <;> first | exact ⟨_, _, rfl, rfl, h⟩ | exact False.elim h
def kAddI : KD := k2 fun i j Q => Q (.int (i + j))
def kAddS : KD := fun x y Q => match x, y with
  | .str a, .str b => a.length + b.length ≤ 16777216 ∧ Q (.str (a ++ b))
  | _, _ => False
def kAddL : KD := fun x y Q => match x, y with
  | .lst a, .lst b => few (a ++ b) ∧ Q (.lst (a ++ b))
  | .lst a, .mu b => few (a ++ b) ∧ Q (.lst (a ++ b))
  | .mu a, .lst b => few (a ++ b) ∧ Q (.lst (a ++ b))
  | .mu a, .mu b => few (a ++ b) ∧ Q (.lst (a ++ b))
  | _, _ => False
theorem Pk.anyL {K : PySem.W.Frag} {F : Fz} {H : Hp} {ds : List D} {d : D} {v : V} (p : Pk K F H d v) (h : d = .lst ds ∨ d = .mu ds) (e : Same F H) : ∃ (p : Addr) (vs : List V), v = .ref p ∧ H p = some (.lst vs) ∧ vs.length ≤ sizeLine ∧ Reps K F ds vs := by
  rcases h with rfl | rfl
  · exact p.lst e
  · exact p.mu e
def kAddT : KD := fun x y Q => match x, y with
  | .tup a, .tup b => a ≠ [] ∧ few (a ++ b) ∧ Q (.tup (a ++ b))
  | _, _ => False
def kAdd : KD := fun x y Q => match x, y with
  | .int i, .int j => Q (.int (i + j))
  | .str a, .str b => a.length + b.length ≤ 16777216 ∧ Q (.str (a ++ b))
  | .lst a, .lst b => few (a ++ b) ∧ Q (.lst (a ++ b))
  | .lst a, .mu b => few (a ++ b) ∧ Q (.lst (a ++ b))
  | .mu a, .lst b => few (a ++ b) ∧ Q (.lst (a ++ b))
  | .mu a, .mu b => few (a ++ b) ∧ Q (.lst (a ++ b))
  | .tup a, .tup b => a ≠ [] ∧ few (a ++ b) ∧ Q (.tup (a ++ b))
  | _, _ => False
theorem opd_addI : OpD X (binaryOp .Add) kAddI := opd_rI0 op_add fun x y Q h => by
  obtain ⟨i, j, rfl, rfl, q⟩ := k2_inv h
  exact ⟨i, j, _, rfl, rfl, fun _ _ => .int _, q⟩
theorem opd_addS : OpD X (binaryOp .Add) kAddS := by
  refine ⟨_, op_add_str, fun x y vx vy F H Qd Q e px py kk q => ?_⟩
  obtain ⟨a, b, rfl, rfl, z, q⟩ : ∃ a b, x = .str a ∧ y = .str b ∧ a.length + b.length ≤ 16777216 ∧ Qd (.str (a ++ b)) := by
    cases x <;> cases y <;> first | exact ⟨_, _, rfl, rfl, q.1, q.2⟩ | exact False.elim q
  exact ⟨a, b, px.str, py.str, by rw [sizeLine_eq]; exact z, kk _ _ F H (.refl e) (.str _) q⟩
theorem opd_addL : OpD X (binaryOp .Add) kAddL := by
  refine ⟨_, op_cat, fun x y vx vy F H Qd Q e px py kk q => ?_⟩
  obtain ⟨a, b, hx, hy, z, q⟩ : ∃ a b, (x = .lst a ∨ x = .mu a) ∧ (y = .lst b ∨ y = .mu b) ∧ few (a ++ b) ∧ Qd (.lst (a ++ b)) := by
    cases x <;> cases y <;> first | exact ⟨_, _, .inl rfl, .inl rfl, q.1, q.2⟩ | exact ⟨_, _, .inl rfl, .inr rfl, q.1, q.2⟩ | exact ⟨_, _, .inr rfl, .inl rfl, q.1, q.2⟩ | exact ⟨_, _, .inr rfl, .inr rfl, q.1, q.2⟩ | exact False.elim q
  obtain ⟨p, vs, rfl, h1, l1, r1⟩ := px.anyL hx e
  obtain ⟨p', vs', rfl, h1', l1', r1'⟩ := py.anyL hy e
  have rr := r1.append r1'
  have zz := few_line rr z
  refine ⟨p, p', vs, vs', rfl, rfl, h1, h1', by rw [← List.length_append]; exact zz, fun l nl => ?_⟩
  obtain ⟨g, r⟩ := Go.lst e rr zz nl
  exact kk _ _ _ _ g r q
theorem opd_addT : OpD X (binaryOp .Add) kAddT := by
  refine ⟨_, op_catT, fun x y vx vy F H Qd Q e px py kk q => ?_⟩
  obtain ⟨a, b, rfl, rfl, ne, z, q⟩ : ∃ a b, x = .tup a ∧ y = .tup b ∧ a ≠ [] ∧ few (a ++ b) ∧ Qd (.tup (a ++ b)) := by
    cases x <;> cases y <;> first | exact ⟨_, _, rfl, rfl, q.1, q.2⟩ | exact False.elim q
  obtain ⟨p, vs, rfl, h1, l1, r1⟩ := px.tup e
  obtain ⟨p', vs', rfl, h1', l1', r1'⟩ := py.tup e
  have rr := r1.append r1'
  have zz := few_line rr z
  have nv : vs ≠ [] := fun h => ne (by rw [h] at r1; cases r1; rfl)
  refine ⟨p, p', vs, vs', rfl, rfl, h1, h1', nv, by rw [← List.length_append]; exact zz, fun en => ?_, fun nn l nl => ?_⟩
  · subst en
    cases r1'
    rw [List.append_nil] at q rr
    exact kk _ _ F H (.refl e) (by rcases px with px | ⟨_, _, _, z, _⟩; exact px; cases z) q
  · obtain ⟨g, r⟩ := Go.tup e rr zz nl
    exact kk _ _ _ _ g r q
theorem opd_add : OpD X (binaryOp .Add) kAdd := ((opd_addI.or opd_addS).or (opd_addL.or opd_addT)).imp fun x y Q h => by
  cases x <;> cases y <;> first | exact .inl (.inl h) | exact .inl (.inr h) | exact .inr (.inl h) | exact .inr (.inr h) | exact False.elim h
def kSub : KD := k2 fun i j Q => Q (.int (i - j))
theorem opd_sub : OpD X (binaryOp .Sub) kSub := opd_rI0 op_sub fun x y Q h => by
  obtain ⟨i, j, rfl, rfl, q⟩ := k2_inv h
  exact ⟨i, j, _, rfl, rfl, fun _ _ => .int _, q⟩
/-- a product that the machine makes: below 2 ^ 27 bits -/
def mulOk (i j : Int) : Prop := IntMulOk i j
theorem op_mulG : OpR X (binaryOp .Mult) (rI mulOk fun i j => .int (i * j)) := opI fun _ _ _ _ _ _ _ hc q => mul_int q hc
def kMulI : KD := k2 fun i j Q => mulOk i j ∧ Q (.int (i * j))
def kMulL : KD := fun x y Q => match x, y with
  | .lst a, .int k => k ≤ 1000000 ∧ -1000000 ≤ k ∧ few (List.replicate k.toNat a).flatten ∧ Q (.lst (List.replicate k.toNat a).flatten)
  | _, _ => False
theorem opd_mulI : OpD X (binaryOp .Mult) kMulI := opd_rI op_mulG fun x y Q h => by
  obtain ⟨i, j, rfl, rfl, c, q⟩ := k2_inv h
  exact ⟨i, j, _, rfl, rfl, c, fun _ _ => .int _, q⟩
theorem flat_len {α : Type} (xs : List α) : ∀ k : Nat, (List.replicate k xs).flatten.length = xs.length * k
  | 0 => rfl
  | k + 1 => by rw [List.replicate_succ, List.flatten_cons, List.length_append, flat_len xs k, Nat.mul_succ]; omega
theorem opd_mulL : OpD X (binaryOp .Mult) kMulL := by
  refine ⟨_, op_rep, fun x y vx vy F H Qd Q e px py kk q => ?_⟩
  obtain ⟨a, k, rfl, rfl, z1, z2, z, q⟩ : ∃ a k, x = .lst a ∧ y = .int k ∧ k ≤ 1000000 ∧ -1000000 ≤ k ∧ few (List.replicate k.toNat a).flatten ∧ Qd (.lst (List.replicate k.toNat a).flatten) := by
    cases x <;> cases y <;> first | exact ⟨_, _, rfl, rfl, q.1, q.2.1, q.2.2.1, q.2.2.2⟩ | exact False.elim q
  obtain ⟨p, vs, rfl, h1, l1, r1⟩ := px.lst e
  cases py.int
  have rr := r1.rep k.toNat
  have zz := few_line rr z
  refine ⟨p, k, vs, rfl, rfl, h1, by omega, by omega, by rw [← flat_len]; exact zz, fun l nl => ?_⟩
  obtain ⟨g, r⟩ := Go.lst e rr zz nl
  exact kk _ _ _ _ g r q
def kMul : KD := fun x y Q => match x, y with
  | .int i, .int j => mulOk i j ∧ Q (.int (i * j))
  | .lst a, .int k => k ≤ 1000000 ∧ -1000000 ≤ k ∧ few (List.replicate k.toNat a).flatten ∧ Q (.lst (List.replicate k.toNat a).flatten)
  | _, _ => False
theorem opd_mul : OpD X (binaryOp .Mult) kMul := (opd_mulI.or opd_mulL).imp fun x y Q h => by
  cases x <;> cases y <;> first | exact .inl h | exact .inr h | exact False.elim h
/-- a floor: the divisor not nought, below 9,000 bits -/
def divOk (j : Int) : Prop := j ≠ 0 ∧ j.natAbs.log2 < 9000
theorem op_divG : OpR X (binaryOp .FloorDiv) (rI (fun _ j => divOk j) fun i j => .int (i.fdiv j)) :=
  opI fun i j _ _ _ _ _ hc q => floordiv_int hc.1 q (.inl (PyProof.noPylong_of_log2 hc.2))
def kDiv : KD := k2 fun i j Q => divOk j ∧ Q (.int (i.fdiv j))
theorem opd_div : OpD X (binaryOp .FloorDiv) kDiv := opd_rI op_divG fun x y Q h => by
  obtain ⟨i, j, rfl, rfl, c, q⟩ := k2_inv h
  exact ⟨i, j, _, rfl, rfl, c, fun _ _ => .int _, q⟩
def kMod : KD := k2 fun i j Q => j ≠ 0 ∧ Q (.int (i.fmod j))
theorem opd_mod : OpD X (binaryOp .Mod) kMod := opd_rI op_modN fun x y Q h => by
  obtain ⟨i, j, rfl, rfl, c, q⟩ := k2_inv h
  exact ⟨i, j, _, rfl, rfl, c, fun _ _ => .int _, q⟩
def kPow : KD := k2 fun i j Q => (0 ≤ j ∧ j ≤ 1000000 ∧ i.natAbs < 2 ^ 64) ∧ Q (.int (i ^ j.toNat))
theorem opd_pow : OpD X (binaryOp .Pow) kPow := opd_rI op_pow fun x y Q h => by
  obtain ⟨i, j, rfl, rfl, c, q⟩ := k2_inv h
  exact ⟨i, j, _, rfl, rfl, c, fun _ _ => .int _, q⟩
/-! comparisons -/
def kLt : KD := k2 fun i j Q => Q (.bl (decide (i < j)))
def kLe : KD := k2 fun i j Q => Q (.bl (decide (i ≤ j)))
def kGt : KD := k2 fun i j Q => Q (.bl (decide (j < i)))
def kGe : KD := k2 fun i j Q => Q (.bl (decide (j ≤ i)))
theorem opd_lt : OpD X (compareOp .Lt) kLt := opd_rI0 op_lt fun x y Q h => by
  obtain ⟨i, j, rfl, rfl, q⟩ := k2_inv h
  exact ⟨i, j, _, rfl, rfl, fun _ _ => .bl _, q⟩
theorem opd_le : OpD X (compareOp .LtE) kLe := opd_rI0 op_le fun x y Q h => by
  obtain ⟨i, j, rfl, rfl, q⟩ := k2_inv h
  exact ⟨i, j, _, rfl, rfl, fun _ _ => .bl _, q⟩
theorem opd_gt : OpD X (compareOp .Gt) kGt := opd_rI0 op_gt fun x y Q h => by
  obtain ⟨i, j, rfl, rfl, q⟩ := k2_inv h
  exact ⟨i, j, _, rfl, rfl, fun _ _ => .bl _, q⟩
theorem opd_ge : OpD X (compareOp .GtE) kGe := opd_rI0 op_ge fun x y Q h => by
  obtain ⟨i, j, rfl, rfl, q⟩ := k2_inv h
  exact ⟨i, j, _, rfl, rfl, fun _ _ => .bl _, q⟩
/-- flat data, not deep -/
def plain (d : D) : Prop := d.flat = true ∧ SeqAt.shaped d.py = true
def kEqG : KD := fun x y Q => plain x ∧ plain y ∧ Q (.bl (PyData.eqv x.py y.py))
def kNeG : KD := fun x y Q => plain x ∧ plain y ∧ Q (.bl (!PyData.eqv x.py y.py))
def kEqI : KD := fun x y Q => match x, y with
  | .int i, .int j => Q (.bl (decide (i = j)))
  | .str i, .str j => Q (.bl (decide (i = j)))
  | .bl i, .bl j => Q (.bl (decide (i = j)))
  | _, _ => False
def kNeI : KD := fun x y Q => match x, y with
  | .int i, .int j => Q (.bl (!decide (i = j)))
  | .str i, .str j => Q (.bl (!decide (i = j)))
  | .bl i, .bl j => Q (.bl (!decide (i = j)))
  | _, _ => False
theorem opd_eqI : OpD X (compareOp .Eq) kEqI := by
  refine ⟨_, op_eq, fun x y vx vy F H Qd Q e px py kk q => ?_⟩
  cases x <;> cases y <;> first | exact False.elim q | skip
  · cases px.bl; cases py.bl; exact ⟨rfl, kk _ _ F H (.refl e) (by rw [show ∀ a b : Bool, decide (V.bl a = V.bl b) = decide (a = b) from fun a b => by cases a <;> cases b <;> rfl]; exact .bl _) q⟩
  · cases px.int; cases py.int; exact ⟨rfl, kk _ _ F H (.refl e) (by rw [dec_int, Bool.beq_eq_decide_eq]; exact .bl _) q⟩
  · cases px.str; cases py.str; exact ⟨rfl, kk _ _ F H (.refl e) (by rw [dec_str, Bool.beq_eq_decide_eq]; exact .bl _) q⟩
theorem opd_neI : OpD X (compareOp .NotEq) kNeI := by
  refine ⟨_, op_ne, fun x y vx vy F H Qd Q e px py kk q => ?_⟩
  cases x <;> cases y <;> first | exact False.elim q | skip
  · cases px.bl; cases py.bl; exact ⟨rfl, kk _ _ F H (.refl e) (by rw [show ∀ a b : Bool, decide (V.bl a = V.bl b) = decide (a = b) from fun a b => by cases a <;> cases b <;> rfl]; exact .bl _) q⟩
  · cases px.int; cases py.int; exact ⟨rfl, kk _ _ F H (.refl e) (by rw [dec_int, Bool.beq_eq_decide_eq]; exact .bl _) q⟩
  · cases px.str; cases py.str; exact ⟨rfl, kk _ _ F H (.refl e) (by rw [dec_str, Bool.beq_eq_decide_eq]; exact .bl _) q⟩
theorem opd_eqG (hu : X.A.units + 64 < cLine) : OpD X (compareOp .Eq) kEqG := by
  refine ⟨_, op_eqD hu, fun x y vx vy F H Qd Q e px py kk ⟨q1, q2, q⟩ => ?_⟩
  exact ⟨_, _, (px.rep e).dp q1.1, (py.rep e).dp q2.1, q1.2, q2.2, kk _ _ F H (.refl e) (.bl _) q⟩
theorem opd_neG (hu : X.A.units + 64 < cLine) : OpD X (compareOp .NotEq) kNeG := by
  refine ⟨_, op_neD hu, fun x y vx vy F H Qd Q e px py kk ⟨q1, q2, q⟩ => ?_⟩
  exact ⟨_, _, (px.rep e).dp q1.1, (py.rep e).dp q2.1, q1.2, q2.2, kk _ _ F H (.refl e) (.bl _) q⟩
def kEq : KD := fun x y Q => match x, y with
  | .int i, .int j => Q (.bl (decide (i = j)))
  | .str i, .str j => Q (.bl (decide (i = j)))
  | .bl i, .bl j => Q (.bl (decide (i = j)))
  | x, y => plain x ∧ plain y ∧ Q (.bl (PyData.eqv x.py y.py))
def kNe : KD := fun x y Q => match x, y with
  | .int i, .int j => Q (.bl (!decide (i = j)))
  | .str i, .str j => Q (.bl (!decide (i = j)))
  | .bl i, .bl j => Q (.bl (!decide (i = j)))
  | x, y => plain x ∧ plain y ∧ Q (.bl (!PyData.eqv x.py y.py))
theorem opd_eq (hu : X.A.units + 64 < cLine) : OpD X (compareOp .Eq) kEq := (opd_eqI.or (opd_eqG hu)).imp fun x y Q h => by
  cases x <;> cases y <;> first | exact .inl h | exact .inr h
theorem opd_ne (hu : X.A.units + 64 < cLine) : OpD X (compareOp .NotEq) kNe := (opd_neI.or (opd_neG hu)).imp fun x y Q h => by
  cases x <;> cases y <;> first | exact .inl h | exact .inr h
end
end Dl

/-! The D-layer, part 3: subscripts, slices, built-in calls, defs called, fields, methods, new instances. -/
namespace Dl
open PySem PySem.Spec
open PyProof.Rows L2
section
variable {X : Cx} {W : WX} {e a b c : Expr} {es : List Expr} {t ta tb tc : TD} {ts : TDs} {pos : Pos}
/-! ### places -/
/-- what wants a thing, of what may be none -/
def asO {α : Type} (Q : α → Prop) : Option α → Prop
  | some d => Q d
  | none => False
theorem asO_inv {α : Type} {Q : α → Prop} {o : Option α} (h : asO Q o) : ∃ d, o = some d ∧ Q d := by
  cases o with
  | none => exact h.elim
  | some d => exact ⟨d, rfl, h⟩
theorem reps_at {K : PySem.W.Frag} {F : Fz} {ds : List D} {vs : List V} {i : Int} {d : D} (r : Reps K F ds vs) (h : atI ds i = some d) : ∃ v, atI vs i = some v ∧ Rep K F d v := by
  unfold atI at h ⊢
  rw [r.length]
  cases q : ixN ds.length i with
  | none => rw [q] at h; cases h
  | some j => rw [q] at h; exact r.get h
def kIx : KD := fun x y Q => match x, y with
  | .lst ds, .int i => asO Q (atI ds i)
  | .frl ds, .int i => asO Q (atI ds i)
  | .tup ds, .int i => asO Q (atI ds i)
  | .mu ds, .int i => asO Q (atI ds i)
  | _, _ => False
def IxD (X : Cx) (k : KD) : Prop :=
  ∃ r, IxR X r ∧ ∀ (x y : D) (vx vy : V) (F : Fz) (H : Hp) (Qd : EQ) (Q : VK), Same F H → Pk X.K F H x vx → Pk X.K F H y vy →
    (∀ d v F' H', Go F H F' H' → Rep X.K F' d v → Qd d → Q v H') → k x y Qd → r vx vy H Q
theorem ixd_seq : IxD X kIx := by
  refine ⟨_, ix_seq, fun x y vx vy F H Qd Q e px py kk q => ?_⟩
  cases x <;> cases y <;> first | exact False.elim q | skip
  · cases py.int
    obtain ⟨d, hd, qd⟩ := asO_inv q
    obtain ⟨p, vs, rfl, h1, l1, r1⟩ := px.tup e
    obtain ⟨v, h2, r2⟩ := reps_at r1 hd
    exact .inr (.inl ⟨p, vs, _, v, rfl, rfl, h1, h2, kk _ _ F H (.refl e) r2 qd⟩)
  · cases py.int
    obtain ⟨d, hd, qd⟩ := asO_inv q
    obtain ⟨p, vs, rfl, h1, l1, r1⟩ := px.lst e
    obtain ⟨v, h2, r2⟩ := reps_at r1 hd
    exact .inl ⟨p, vs, _, v, rfl, rfl, SqL.of h1, h2, kk _ _ F H (.refl e) r2 qd⟩
  · cases py.int
    obtain ⟨d, hd, qd⟩ := asO_inv q
    obtain ⟨p, vs, rfl, h1, l1, r1⟩ := px.frl e
    obtain ⟨v, h2, r2⟩ := reps_at r1 hd
    exact .inl ⟨p, vs, _, v, rfl, rfl, h1, h2, kk _ _ F H (.refl e) r2 qd⟩
  · cases py.int
    obtain ⟨d, hd, qd⟩ := asO_inv q
    obtain ⟨p, vs, rfl, h1, l1, r1⟩ := px.mu e
    obtain ⟨v, h2, r2⟩ := reps_at r1 hd
    exact .inl ⟨p, vs, _, v, rfl, rfl, SqL.of h1, h2, kk _ _ F H (.refl e) r2 qd⟩
theorem re_ix {k : KD} (ho : IxD X k) (ha : RP X W a ta) (hb : RP X W b tb) (hs : PlainIx b := by exact fun _ _ => rfl) : RE X W (.Subscript a b pos) (dOp k ta tb) := by
  obtain ⟨r, o1, o2⟩ := ho
  obtain ⟨te1, a1, a2⟩ := ha.run
  obtain ⟨te2, b1, b2⟩ := hb.run
  exact ⟨_, pe_ix o1 a1 b1 hs, fun ρ σ F H Qd E Q rl xp kk q => op_core a2 b2 o2 rl xp kk q⟩

/-! ### slices -/
abbrev TDo := Env' → (Option Int → Prop) → EQ → Prop
structure RO (X : Cx) (W : WX) (e : Option Expr) (t : TDo) : Prop where
  run : ∃ to, PO X e to ∧ ∀ (ρ : Env') (σ : L2.St) (F : Fz) (H : Hp) (Qd : Option Int → Prop) (E : EQ) (Q : Option Int → Hp → Prop), Rl X.K ρ σ F H → XP X.K W σ F H E →
    (∀ o F' H', Go F H F' H' → Qd o → Q o H') → t ρ Qd E → to σ H Q
def dNoPart : TDo := fun _ Q _ => Q none
def asI (Q : Int → Prop) : EQ
  | .int i => Q i
  | _ => False
theorem asI_inv {Q : Int → Prop} {d : D} (h : asI Q d) : ∃ i, d = .int i ∧ Q i := by
  cases d <;> first | exact ⟨_, rfl, h⟩ | exact False.elim h
def dPart (t : TD) : TDo := fun ρ Q E => t ρ (asI fun i => Q (some i)) E
theorem ro_none : RO X W none dNoPart := ⟨_, po_none, fun ρ σ F H Qd E Q rl xp kk q => kk _ F H (.refl rl.fh) q⟩
theorem ro_some (h : RP X W e t) : RO X W (some e) (dPart t) := by
  obtain ⟨te, h1, h2⟩ := h.run
  refine ⟨_, po_some h1, fun ρ σ F H Qd E Q rl xp kk q => h2 ρ σ F H _ E _ rl xp (fun d v F1 H1 g1 r1 q1 => ?_) q⟩
  obtain ⟨i, rfl, qi⟩ := asI_inv q1
  cases r1.int
  exact ⟨i, rfl, kk _ F1 H1 g1 qi⟩
def cut {α : Type} (xs : List α) (lo hi : Option Int) : List α := (xs.drop (HT.sIx xs.length 0 lo)).take (HT.sIx xs.length xs.length hi - HT.sIx xs.length 0 lo)
theorem reps_cut {K : PySem.W.Frag} {F : Fz} {ds : List D} {vs : List V} (lo hi : Option Int) (r : Reps K F ds vs) : Reps K F (cut ds lo hi) (cutV vs lo hi) := by
  unfold cut cutV
  rw [r.length]
  exact (r.drop _).take _
def kSl : D → Option Int → Option Int → EQ → Prop := fun x lo hi Q => match x with
  | .lst ds => Q (.lst (cut ds lo hi))
  | .frl ds => Q (.lst (cut ds lo hi))
  | .mu ds => Q (.lst (cut ds lo hi))
  | .tup ds => ¬ (HT.sIx ds.length 0 lo = 0 ∧ HT.sIx ds.length ds.length hi = ds.length) ∧ Q (.tup (cut ds lo hi))
  | .str z => z.length ≤ 16777216 ∧ Q (.str (cutS z lo hi))
  | _ => False
def dSl (t : TD) (tl th : TDo) : TD := fun ρ Q E => t ρ (fun x => tl ρ (fun l => th ρ (fun u => kSl x l u Q) E) E) E
theorem re_slice {lo hi : Option Expr} {p2 : Pos} {tl th : TDo} (he : RP X W e t) (hl : RO X W lo tl) (hh : RO X W hi th) : RE X W (.Subscript e (.Slice lo hi none p2) pos) (dSl t tl th) := by
  obtain ⟨te, h1, h2⟩ := he.run
  obtain ⟨te1, a1, a2⟩ := hl.run
  obtain ⟨te2, b1, b2⟩ := hh.run
  refine ⟨_, pe_slice ((sl_list.or sl_tup).or sl_str) h1 a1 b1, fun ρ σ F H Qd E Q rl xp kk q => h2 ρ σ F H _ E _ rl xp (fun x vx F1 H1 g1 px q1 => ?_) q⟩
  refine a2 ρ σ F1 H1 _ E _ (rl.go g1) (xp.go g1) (fun l F2 H2 g2 q2 => ?_) q1
  refine b2 ρ σ F2 H2 _ E _ ((rl.go g1).go g2) ((xp.go g1).go g2) (fun u F3 H3 g3 q3 => ?_) q2
  have g := (g1.trans g2).trans g3
  have px3 := (px.go g2).go g3
  cases x <;> first | exact False.elim q3 | skip
  · cases px3.str
    exact .inr ⟨_, rfl, by rw [sizeLine_eq]; exact q3.1, kk _ _ F3 H3 g (.str _) q3.2⟩
  · obtain ⟨p, vs, rfl, hs, l1, r1⟩ := px3.tup g3.fh
    have z1 := Nat.le_trans (cutV_length vs l u) l1
    refine .inl (.inr ⟨p, vs, rfl, hs, by rw [r1.length]; exact q3.1, fun n nn => ?_⟩)
    obtain ⟨g4, r4⟩ := Go.tup g3.fh (reps_cut l u r1) z1 nn
    exact kk _ _ _ _ (g.trans g4) r4 q3.2
  · obtain ⟨p, vs, rfl, hs, l1, r1⟩ := px3.lst g3.fh
    have z1 := Nat.le_trans (cutV_length vs l u) l1
    refine .inl (.inl ⟨p, vs, rfl, SqL.of hs, fun n nn => ?_⟩)
    obtain ⟨g4, r4⟩ := Go.lst g3.fh (reps_cut l u r1) z1 nn
    exact kk _ _ _ _ (g.trans g4) r4 q3
  · obtain ⟨p, vs, rfl, hs, l1, r1⟩ := px3.frl g3.fh
    have z1 := Nat.le_trans (cutV_length vs l u) l1
    refine .inl (.inl ⟨p, vs, rfl, hs, fun n nn => ?_⟩)
    obtain ⟨g4, r4⟩ := Go.lst g3.fh (reps_cut l u r1) z1 nn
    exact kk _ _ _ _ (g.trans g4) r4 q3
  · obtain ⟨p, vs, rfl, hs, l1, r1⟩ := px3.mu g3.fh
    have z1 := Nat.le_trans (cutV_length vs l u) l1
    refine .inl (.inl ⟨p, vs, rfl, SqL.of hs, fun n nn => ?_⟩)
    obtain ⟨g4, r4⟩ := Go.lst g3.fh (reps_cut l u r1) z1 nn
    exact kk _ _ _ _ (g.trans g4) r4 q3

/-! ### built-in calls -/
abbrev KC := List D → EQ → Prop
def CallD (X : Cx) (f : Value) (k : KC) : Prop :=
  ∃ r, CallR X f r ∧ ∀ (ds : List D) (vs : List V) (F : Fz) (H : Hp) (Qd : EQ) (Q : VK), Same F H → Pks X.K F H ds vs →
    (∀ d v F' H', Go F H F' H' → Rep X.K F' d v → Qd d → Q v H') → k ds Qd → r vs H Q
def dCB (k : KC) (ts : TDs) : TD := fun ρ Q E => ts ρ (fun ds => k ds Q) E
theorem re_callB {id : String} {x : Str} {p : Pos} {k : KC} (hc : CallD X (.builtin id) k) (hm : X.mg x = none) (ha : RPA X W (e :: es) ts) (hg : Gl X x := by rfl) (hv : bootBuiltins x = some (.builtin id) := by decide +kernel)
    (hn : x ≠ "__name__" := by decide) (hdb : (x == ("__debug__" : Str)) = false := by decide)
    (he : starEach (e :: es) X.env = (false, eval e X.env) :: starEach es X.env := by rfl) (hpl : (backTo pos (starEach es X.env)).any (·.1) = false := by rfl) : RE X W (.Call (.Name x p) (e :: es) [] pos) (dCB k ts) := by
  obtain ⟨r, o1, o2⟩ := hc
  obtain ⟨te, h1, h2⟩ := ha.run
  exact ⟨_, pe_callB o1 hg hm hv h1 hn hdb he hpl, fun ρ σ F H Qd E Q rl xp kk q => h2 ρ σ F H _ E _ rl xp (fun ds vs F1 H1 g1 r1 q1 => o2 ds vs F1 H1 Qd Q g1.fh r1 (fun d v F' H' g rp qd => kk d v F' H' (g1.trans g) rp qd) q1) q⟩
theorem re_callTy {T : String} {x : Str} {p : Pos} {k : KC} (hc : CallD X (.type T) k) (hm : X.mg x = none) (ha : RPA X W (e :: es) ts) (hg : Gl X x := by rfl) (hv : bootBuiltins x = some (.type T) := by decide +kernel)
    (hn : x ≠ "__name__" := by decide) (hdb : (x == ("__debug__" : Str)) = false := by decide)
    (he : starEach (e :: es) X.env = (false, eval e X.env) :: starEach es X.env := by rfl) (hpl : (backTo pos (starEach es X.env)).any (·.1) = false := by rfl) : RE X W (.Call (.Name x p) (e :: es) [] pos) (dCB k ts) := by
  obtain ⟨r, o1, o2⟩ := hc
  obtain ⟨te, h1, h2⟩ := ha.run
  exact ⟨_, pe_callTy o1 hg hm hv h1 hn hdb he hpl, fun ρ σ F H Qd E Q rl xp kk q => h2 ρ σ F H _ E _ rl xp (fun ds vs F1 H1 g1 r1 q1 => o2 ds vs F1 H1 Qd Q g1.fh r1 (fun d v F' H' g rp qd => kk d v F' H' (g1.trans g) rp qd) q1) q⟩
theorem pks1 {K : PySem.W.Frag} {F : Fz} {H : Hp} {d : D} {vs : List V} (h : Pks K F H [d] vs) : ∃ v, vs = [v] ∧ Pk K F H d v := by
  cases h with
  | cons p q => cases q; exact ⟨_, rfl, p⟩
theorem pks2 {K : PySem.W.Frag} {F : Fz} {H : Hp} {d d' : D} {vs : List V} (h : Pks K F H [d, d'] vs) : ∃ v v', vs = [v, v'] ∧ Pk K F H d v ∧ Pk K F H d' v' := by
  cases h with
  | cons p q =>
    obtain ⟨v, rfl, p'⟩ := pks1 q
    exact ⟨_, _, rfl, p, p'⟩
def k1c (g : D → EQ → Prop) : KC := fun ds Q => match ds with
  | [d] => g d Q
  | _ => False
theorem k1c_inv {g : D → EQ → Prop} {ds : List D} {Q : EQ} (h : k1c g ds Q) : ∃ d, ds = [d] ∧ g d Q := by
  match ds, h with
  | [d], h => exact ⟨d, rfl, h⟩
def k2c (g : D → D → EQ → Prop) : KC := fun ds Q => match ds with
  | [d, e] => g d e Q
  | _ => False
theorem k2c_inv {g : D → D → EQ → Prop} {ds : List D} {Q : EQ} (h : k2c g ds Q) : ∃ d e, ds = [d, e] ∧ g d e Q := by
  match ds, h with
  | [d, e], h => exact ⟨d, e, rfl, h⟩
/-- len -/
def kLen : KC := k1c fun d Q => match d with
  | .lst ds => Q (.int ds.length)
  | .frl ds => Q (.int ds.length)
  | .mu ds => Q (.int ds.length)
  | .tup ds => Q (.int ds.length)
  | .str z => z.length ≤ 16777216 ∧ Q (.int z.length)
  | _ => False
theorem cd_len : CallD X (.builtin "len") kLen := by
  refine ⟨_, call_len_seq.or call_len_str, fun ds vs F H Qd Q e ps kk q => ?_⟩
  obtain ⟨d, rfl, q⟩ := k1c_inv q
  obtain ⟨v, rfl, pk⟩ := pks1 ps
  cases d <;> first | exact False.elim q | skip
  · cases pk.str
    exact .inr ⟨_, rfl, by rw [sizeLine_eq]; exact q.1, kk _ _ F H (.refl e) (.int _) q.2⟩
  · obtain ⟨p, ws, rfl, h1, l1, r1⟩ := pk.tup e
    exact .inl ⟨p, ws, rfl, .inr h1, kk _ _ F H (.refl e) (by rw [r1.length]; exact .int _) q⟩
  · obtain ⟨p, ws, rfl, h1, l1, r1⟩ := pk.lst e
    exact .inl ⟨p, ws, rfl, .inl (SqL.of h1), kk _ _ F H (.refl e) (by rw [r1.length]; exact .int _) q⟩
  · obtain ⟨p, ws, rfl, h1, l1, r1⟩ := pk.frl e
    exact .inl ⟨p, ws, rfl, .inl h1, kk _ _ F H (.refl e) (by rw [r1.length]; exact .int _) q⟩
  · obtain ⟨p, ws, rfl, h1, l1, r1⟩ := pk.mu e
    exact .inl ⟨p, ws, rfl, .inl (SqL.of h1), kk _ _ F H (.refl e) (by rw [r1.length]; exact .int _) q⟩
def blsOf : List D → Option (List Bool)
  | [] => some []
  | .bl i :: ds => (blsOf ds).map (i :: ·)
  | _ :: _ => none
theorem blsOf_map : ∀ ns : List Bool, blsOf (ns.map D.bl) = some ns
  | [] => rfl
  | n :: ns => by show (blsOf (ns.map D.bl)).map (n :: ·) = _; rw [blsOf_map ns]; rfl
theorem blsOf_inv : ∀ {ds : List D} {ns : List Bool}, blsOf ds = some ns → ds = ns.map D.bl
  | [], ns, h => by cases h; rfl
  | d :: ds, ns, h => by
    cases d <;> first | cases h | skip
    rename_i i
    cases q : blsOf ds with
    | none => rw [show blsOf (.bl i :: ds) = (blsOf ds).map (i :: ·) from rfl, q] at h; cases h
    | some ms =>
      rw [show blsOf (.bl i :: ds) = (blsOf ds).map (i :: ·) from rfl, q] at h
      cases h
      rw [blsOf_inv q]; rfl
def onL (g : List D → Prop) : D → Prop
  | .lst ds => g ds
  | _ => False
theorem onL_inv {g : List D → Prop} {d : D} (h : onL g d) : ∃ ds, d = .lst ds ∧ g ds := by
  cases d <;> first | exact ⟨_, rfl, h⟩ | exact False.elim h
def kAll : KC := k1c fun d Q => onL (fun ds => asO (fun ns => Q (.bl (List.all ns id))) (blsOf ds)) d
theorem cd_all (hc : X.calm = true) : CallD X (.builtin "all") kAll := by
  refine ⟨_, cr_all hc, fun ds vs F H Qd Q e ps kk q => ?_⟩
  obtain ⟨d, rfl, q⟩ := k1c_inv q
  obtain ⟨v, rfl, pk⟩ := pks1 ps
  obtain ⟨xs, rfl, q⟩ := onL_inv q
  obtain ⟨ns, hn, q⟩ := asO_inv q
  obtain ⟨p, ws, rfl, h1, l1, r1⟩ := pk.lst e
  rw [blsOf_inv hn] at r1
  have z := r1.bls
  subst z
  exact ⟨p, ns, rfl, SqL.of h1, kk _ _ F H (.refl e) (.bl _) q⟩
/-- tuple(x), list(x) -/
def kTuple : KC := k1c fun d Q => match d with
  | .lst ds => Q (.tup ds)
  | .frl ds => Q (.tup ds)
  | .mu ds => Q (.tup ds)
  | .tup ds => Q (.tup ds)
  | _ => False
theorem cd_tuple : CallD X (.type "tuple") kTuple := by
  refine ⟨_, call_tuple_of, fun ds vs F H Qd Q e ps kk q => ?_⟩
  obtain ⟨d, rfl, q⟩ := k1c_inv q
  obtain ⟨v, rfl, pk⟩ := pks1 ps
  cases d <;> first | exact False.elim q | skip
  · obtain ⟨p, ws, rfl, h1, l1, r1⟩ := pk.tup e
    exact ⟨p, ws, rfl, .inr ⟨h1, kk _ _ F H (.refl e) (by rcases pk with pk | ⟨_, _, _, z, _⟩; exact pk; cases z) q⟩⟩
  · obtain ⟨p, ws, rfl, h1, l1, r1⟩ := pk.lst e
    refine ⟨p, ws, rfl, .inl ⟨SqL.of h1, fun n nn => ?_⟩⟩
    obtain ⟨g4, r4⟩ := Go.tup e r1 l1 nn
    exact kk _ _ _ _ g4 r4 q
  · obtain ⟨p, ws, rfl, h1, l1, r1⟩ := pk.frl e
    refine ⟨p, ws, rfl, .inl ⟨h1, fun n nn => ?_⟩⟩
    obtain ⟨g4, r4⟩ := Go.tup e r1 l1 nn
    exact kk _ _ _ _ g4 r4 q
  · obtain ⟨p, ws, rfl, h1, l1, r1⟩ := pk.mu e
    refine ⟨p, ws, rfl, .inl ⟨SqL.of h1, fun n nn => ?_⟩⟩
    obtain ⟨g4, r4⟩ := Go.tup e r1 l1 nn
    exact kk _ _ _ _ g4 r4 q
def kList : KC := k1c fun d Q => match d with
  | .lst ds => Q (.lst ds)
  | .frl ds => Q (.lst ds)
  | .mu ds => Q (.lst ds)
  | .tup ds => Q (.lst ds)
  | _ => False
theorem cd_list : CallD X (.type "list") kList := by
  refine ⟨_, call_list_of, fun ds vs F H Qd Q e ps kk q => ?_⟩
  obtain ⟨d, rfl, q⟩ := k1c_inv q
  obtain ⟨v, rfl, pk⟩ := pks1 ps
  cases d <;> first | exact False.elim q | skip
  · obtain ⟨p, ws, rfl, h1, l1, r1⟩ := pk.tup e
    refine ⟨p, ws, rfl, .inr h1, fun n nn => ?_⟩
    obtain ⟨g4, r4⟩ := Go.lst e r1 l1 nn
    exact kk _ _ _ _ g4 r4 q
  · obtain ⟨p, ws, rfl, h1, l1, r1⟩ := pk.lst e
    refine ⟨p, ws, rfl, .inl (SqL.of h1), fun n nn => ?_⟩
    obtain ⟨g4, r4⟩ := Go.lst e r1 l1 nn
    exact kk _ _ _ _ g4 r4 q
  · obtain ⟨p, ws, rfl, h1, l1, r1⟩ := pk.frl e
    refine ⟨p, ws, rfl, .inl h1, fun n nn => ?_⟩
    obtain ⟨g4, r4⟩ := Go.lst e r1 l1 nn
    exact kk _ _ _ _ g4 r4 q
  · obtain ⟨p, ws, rfl, h1, l1, r1⟩ := pk.mu e
    refine ⟨p, ws, rfl, .inl (SqL.of h1), fun n nn => ?_⟩
    obtain ⟨g4, r4⟩ := Go.lst e r1 l1 nn
    exact kk _ _ _ _ g4 r4 q
end
end Dl

/-! The D-layer, part 4: isinstance, defs called, fields, methods. -/
namespace Dl
open PySem PySem.Spec
open PyProof.Rows L2
section
variable {X : Cx} {W : WX} {e a b c : Expr} {es : List Expr} {t ta tb tc : TD} {ts : TDs} {pos : Pos}
/-! ### isinstance -/
/-- a built-in type's name of a tree -/
def tyN : D → Option String
  | .non => some "NoneType"
  | .bl _ => some "bool"
  | .int _ => some "int"
  | .str _ => some "str"
  | .tup _ => some "tuple"
  | .lst _ => some "list"
  | .frl _ => some "list"
  | .dic _ => some "dict"
  | _ => none
/-- the same, of lists that may be changed one day too -/
def tyM : D → Option String
  | .mu _ => some "list"
  | d => tyN d
theorem tyx_of {K : PySem.W.Frag} {H : Fz} {d : D} {v : V} {n : String} (r : Rep K H d v) (h : tyM d = some n) : TyX K H.h v (.type n) := by
  cases r with
  | non => cases h; exact .base .non
  | bl b => cases h; exact .base (.bl b)
  | int i => cases h; exact .base (.int i)
  | str x => cases h; exact .base (.str x)
  | ty n => cases h
  | cls C => cases h
  | ob v => cases h
  | tup s l r =>
    cases h
    exact .base (.tup s)
  | lst s _ l r => cases h; exact .base (.lst s)
  | mu s _ l r => cases h; exact .base (.lst s)
  | frl s l r =>
    cases h
    rcases same_seqL H.kh_same s with (s | ⟨o, s⟩) | ⟨o, its, n, k, c, _⟩
    · exact .base (.lst s)
    · exact .base (.frz s)
    · exact .kList k c
  | ins s r => cases h
  | dic s r => cases h; exact .base (.dK s)
/-- whether a tree is of a built-in type, for the types that are asked for -/
def isB (x : D) (n : String) : Option Bool := (tyM x).bind fun m => kitB m n
/-- what isinstance asks of the text about a class of its own -/
structure InsTy (K : PySem.W.Frag) (C : Addr) : Prop where
  cl : Cls K C
  ha : PySem.W.findIn K (.ref C) "__class__" = some (some (.builtin "object.__class__"))
  hn : PySem.W.specialIn K (.builtin "object.__class__") "__get__" = some (some (.builtin "getset_descriptor.__get__"))
  htk : PySem.W.takesIn K (.builtin "object.__class__") = some true
  hm : PySem.W.mroIn K C (.type "object") = some true
def kIsi (K : PySem.W.Frag) : KC := k2c fun x c Q => match c with
  | .ty n => (match x with
    | .ins C _ => InsTy K C ∧ asO (fun b => Q (.bl b)) (PySem.W.kitOne K (.ref C) (.type n))
    | x => asO (fun b => Q (.bl b)) (isB x n))
  | .cls C' => (match x with
    | .ins C _ => InsTy K C ∧ asO (fun b => Q (.bl b)) (PySem.W.kitOne K (.ref C) (.ref C'))
    | x => asO (fun m => asO (fun b => Q (.bl b)) (PySem.W.kitOne K (.type m) (.ref C'))) (tyM x))
  | _ => False
theorem isi_run {K : PySem.W.Frag} {F : Fz} {H : Hp} {x c : D} {vx vc : V} {t u : Value} {b : Bool} {Qd : EQ} {Q : VK} (e : Same F H) (ty : TyX K H vx t) (cv : ClsV vc u) (k : PySem.W.kitOne K t u = some b)
    (kk : ∀ d v F' H', Go F H F' H' → Rep K F' d v → Qd d → Q v H') (q : Qd (.bl b)) : rIsi K [vx, vc] H Q := ⟨vx, vc, t, u, b, rfl, cv, ty, k, kk _ _ F H (.refl e) (.bl _) q⟩
theorem cd_isi {K : PySem.W.Frag} (hK : X.K = K := by rfl) : CallD X (.builtin "isinstance") (kIsi K) := by
  subst hK
  refine ⟨_, call_isi, fun ds vs F H Qd Q e ps kk q => ?_⟩
  obtain ⟨x, c, rfl, q⟩ := k2c_inv q
  obtain ⟨vx, vc, rfl, px, pc⟩ := pks2 ps
  have rx := px.rep e
  have rc := pc.rep e
  have base : ∀ {u : Value}, ClsV vc u → ∀ {m : String} {b : Bool}, tyM x = some m → PySem.W.kitOne X.K (.type m) u = some b → Qd (.bl b) → rIsi X.K [vx, vc] H Q := fun cv m b h1 h2 h3 => isi_run (x := x) (c := c) e (tyx_of rx h1) cv h2 kk h3
  have own : ∀ {u : Value}, ClsV vc u → ∀ {C : Addr} {fs : List (Str × D)} {b : Bool}, x = .ins C fs → InsTy X.K C → PySem.W.kitOne X.K (.ref C) u = some b → Qd (.bl b) → rIsi X.K [vx, vc] H Q := fun cv C fs b h1 i h2 h3 => by
    subst h1
    cases rx with
    | ins s r => exact isi_run (x := .ins C fs) (c := c) e (.base (.ins s i.cl i.ha i.hn i.htk i.hm)) cv h2 kk h3
  cases c <;> first | exact False.elim q | skip
  · cases rc
    rename_i n _
    have cv := ClsV.ty n
    by_cases hx : ∃ C fs, x = .ins C fs
    · obtain ⟨C, fs, rfl⟩ := hx
      obtain ⟨i, q⟩ := q
      obtain ⟨b, h1, h2⟩ := asO_inv q
      exact own cv rfl i h1 h2
    · have q' : asO (fun b => Qd (.bl b)) (isB x n) := by
        cases x <;> first | exact q | exact absurd ⟨_, _, rfl⟩ hx
      obtain ⟨b, h1, h2⟩ := asO_inv q'
      obtain ⟨m, h3, h4⟩ := Option.bind_eq_some_iff.mp h1
      exact base cv h3 (kit_ty h4) h2
  · cases rc
    rename_i C' _
    have cv := ClsV.own C'
    by_cases hx : ∃ C fs, x = .ins C fs
    · obtain ⟨C, fs, rfl⟩ := hx
      obtain ⟨i, q⟩ := q
      obtain ⟨b, h1, h2⟩ := asO_inv q
      exact own cv rfl i h1 h2
    · have q' : asO (fun m => asO (fun b => Qd (.bl b)) (PySem.W.kitOne X.K (.type m) (.ref C'))) (tyM x) := by
        cases x <;> first | exact q | exact absurd ⟨_, _, rfl⟩ hx
      obtain ⟨m, h1, h2⟩ := asO_inv q'
      obtain ⟨b, h3, h4⟩ := asO_inv h2
      exact base cv h1 h3 h4

/-! ### defs -/
/-- what a def promises, by trees: the arguments, what is wanted of its value, of an exception -/
abbrev DF := List D → EQ → EQ → Prop
def spD (K : PySem.W.Frag) (n : Nat) (G : DF) : Sp := fun vs H Q E => ∃ (ds : List D) (F : Fz) (Qd Ed : EQ), Same F H ∧ Reps K F ds vs ∧ ds.length = n ∧ G ds Qd Ed ∧
  (∀ d v F' H', Go F H F' H' → Rep K F' d v → Qd d → Q v H') ∧ (∀ x cls dx F' H', Go F H F' H' → XRep K F' H' x cls dx → Ed x → E cls dx H')
/-- a def of the text as it stands, with its promise -/
structure FD (P : Program) (w : World) (K : PySem.W.Frag) (mg : Str → Option Value) (base : Heap) (k : Nat) (f : Addr) (n : Nat) (dd : List D) (G : DF) : Prop where
  ok : ∃ (fd : FuncData) (ps : List Str) (dvs : List V) (ds : List Value), FnOk P w K mg base (L2.CX P w) k f fd ps (spD K n G) ∧ Binds K fd ps ds ∧ Vals dvs ds ∧ (∀ F, Reps K F dd dvs)
  kp : PySem.W.keepIn K (.ref f) = true
def dCall (n : Nat) (dd : List D) (G : DF) (ts : TDs) : TD := fun ρ Q E => ts ρ (fun ds => (ds ++ dd).length = n ∧ G (ds ++ dd) Q E) E
theorem call_run {K : PySem.W.Frag} {n : Nat} {dd : List D} {G : DF} {ts : TDs} {ta : TA} {dvs : List V} {ρ : Env'} {σ : L2.St} {F : Fz} {H : Hp} {Qd E : EQ} {Q : VK}
    (h2 : ∀ (ρ : Env') (σ : L2.St) (F : Fz) (H : Hp) (Qd : List D → Prop) (E : EQ) (Q : List V → Hp → Prop), Rl K ρ σ F H → XP K W σ F H E → (∀ ds vs F' H', Go F H F' H' → Reps K F' ds vs → Qd ds → Q vs H') → ts ρ Qd E → ta σ H Q)
    (hd : ∀ F, Reps K F dd dvs) (rl : Rl K ρ σ F H) (xp : XP K W σ F H E) (kk : ∀ d v F' H', Go F H F' H' → Rep K F' d v → Qd d → Q v H') (q : dCall n dd G ts ρ Qd E) : tCallSD (spD K n G) dvs (WE W) ta σ H Q := by
  refine h2 ρ σ F H _ E _ rl xp (fun ds vs F1 H1 g1 r1 q1 => ?_) q
  exact ⟨ds ++ dd, F1, Qd, E, g1.fh, r1.append (hd F1), q1.1, q1.2, fun d v F' H' g r qd => kk d v F' H' (g1.trans g) r qd, fun x cls dx F' H' g r ex => xp x cls dx F' H' (g1.trans g) r ex⟩
theorem re_call {k n : Nat} {f : Addr} {dd : List D} {G : DF} {x : Str} {p : Pos} (h : FD X.prog X.w X.K X.mg X.base k f n dd G) (hr : Room k X.A) (hm : X.mg x = some (.ref f)) (tk : Takes X W) (ha : RA X W (e :: es) ts)
    (hg : Gl X x := by rfl) (hdb : (x == ("__debug__" : Str)) = false := by decide) (he : starEach (e :: es) X.env = (false, eval e X.env) :: starEach es X.env := by rfl) (hpl : (backTo pos (starEach es X.env)).any (·.1) = false := by rfl) :
    RE X W (.Call (.Name x p) (e :: es) [] pos) (dCall n dd G ts) := by
  obtain ⟨fd, ps, dvs, dsv, F, bn, vl, hd⟩ := h.ok
  obtain ⟨ta, h1, h2⟩ := ha.run
  exact ⟨_, pe_callSD F hr hg hm h.kp bn vl (fun σ => passAt tk σ) h1 hdb he hpl, fun ρ σ F H Qd E Q rl xp kk q => call_run h2 hd rl xp kk q⟩

/-! ### fields -/
def FldOk (K : PySem.W.Frag) (C : Addr) (f : Str) : Prop := Cls K C ∧ NoAttr K C f
def dFld (K : PySem.W.Frag) (f : Str) (t : TD) : TD := fun ρ Q E => t ρ (fun x => match x with
  | .ins C fs => FldOk K C f ∧ asO Q (fs.lookup f)
  | _ => False) E
theorem re_fld {K : PySem.W.Frag} {f : Str} (he : RE X W e t) (hK : X.K = K := by rfl) (hb : attributeBase e f X.env (eval e X.env) = eval e X.env := by rfl) : RE X W (.Attribute e f pos) (dFld K f t) := by
  subst hK
  obtain ⟨te, h1, h2⟩ := he.run
  refine ⟨_, pe_fld h1 hb, fun ρ σ F H Qd E Q rl xp kk q => h2 ρ σ F H _ E _ rl xp (fun x vx F1 H1 g1 r1 q1 => ?_) q⟩
  cases x <;> first | exact False.elim q1 | skip
  cases r1 with
  | ins s r =>
    obtain ⟨d, h3, h4⟩ := asO_inv q1.2
    obtain ⟨v, h5, h6⟩ := r.look h3
    exact ⟨_, _, _, _, v, rfl, g1.fh _ _ s, q1.1.1, q1.1.2, h5, kk _ _ F1 H1 g1 h6 h4⟩
/-! ### methods of one's own classes -/
/-- a method (not raised at the slots alone): the receiver, the arguments -/
def tMethS (C : Addr) (m : Str) (sp : Sp) (E : L2.St → XK) (ta : TE) (u : TA) : TE := fun σ H Q => ta σ H fun x H1 => ∃ (a dx : Addr) (fs : List (Str × V)), x = .ref a ∧ H1 a = some (.ins C dx fs) ∧ fs.lookup m = none ∧
  u σ H1 fun vs H2 => sp (x :: vs) H2 Q (E σ)
theorem pe_methS0 {CX : CXT} {k : Nat} {f C : Addr} {fd : FuncData} {ps : List Str} {sp : Sp} {E : L2.St → XK} {m : Str} {apos : Pos} {o : Expr} {te : TE} {pl : Sem Bool}
    (he : PE X o te) (c : Cls X.K C) (hm : Meth X.K C m f) (F : FnOk X.prog X.w X.K X.mg X.base CX k f fd ps sp) (hr : Room k X.A) (hb : Binds X.K fd ps []) (hx : ∀ σ, PassesAt CX X σ (E σ))
    (ht : eval (.Call (.Attribute o m apos) [] [] pos) X.env = (eval o X.env >>= fun ov => standAt apos.atName >>= fun _ => holding [ov] (getMethod ov m pl) >>= fun (g : Value × List Value) => callWith pos g.1 g.2 (backTo pos (starEach [] X.env)) (backToKw pos (keywordEach [] X.env)))) :
    PE X (.Call (.Attribute o m apos) [] [] pos) (tMethS C m sp E te tNil) := by
  refine ⟨fun pins s σ H Q I h => ?_⟩
  refine PySem.W.methodCall_KW (pl := pl) (thn (he.run pins s σ H _ I h) fun w s1 hh => ?_) ht
  obtain ⟨x, H1, I1, rx, a, dx, fs, ex, ea, l, q⟩ := hh
  subst ex
  obtain rfl : w = Value.ref a := rx
  refine getmeth_ok I1 ea c hm l ?_
  exact PySem.W.callWith_K0 (first := [.ref a]) I1.kIn hm.kp (run_fnS (us := [.ref a]) (vs := [.ref a]) F hr hb (hx σ) I1 (.cons rfl .nil) q)
/-- the receiver an instance of the class at C -/
def dMeth (C : Addr) (m : Str) (n : Nat) (G : DF) (t : TD) (ts : TDs) : TD := fun ρ Q E => t ρ (fun x => match x with
  | .ins C' fs => C' = C ∧ fs.lookup m = none ∧ ts ρ (fun ds => ds.length + 1 = n ∧ G (x :: ds) Q E) E
  | _ => False) E
theorem meth_run {K : PySem.W.Frag} {C : Addr} {m : Str} {n : Nat} {G : DF} {te : TE} {ta : TA} {ρ : Env'} {σ : L2.St} {F : Fz} {H : Hp} {Qd E : EQ} {Q : VK}
    (h1 : ∀ (ρ : Env') (σ : L2.St) (F : Fz) (H : Hp) (Qd E : EQ) (Q : VK), Rl K ρ σ F H → XP K W σ F H E → (∀ d v F' H', Go F H F' H' → Rep K F' d v → Qd d → Q v H') → t ρ Qd E → te σ H Q)
    (h2 : ∀ (ρ : Env') (σ : L2.St) (F : Fz) (H : Hp) (Qd : List D → Prop) (E : EQ) (Q : List V → Hp → Prop), Rl K ρ σ F H → XP K W σ F H E → (∀ ds vs F' H', Go F H F' H' → Reps K F' ds vs → Qd ds → Q vs H') → ts ρ Qd E → ta σ H Q)
    (rl : Rl K ρ σ F H) (xp : XP K W σ F H E) (kk : ∀ d v F' H', Go F H F' H' → Rep K F' d v → Qd d → Q v H') (q : dMeth C m n G t ts ρ Qd E) : tMethS C m (spD K n G) (WE W) te ta σ H Q := by
  refine h1 ρ σ F H _ E _ rl xp (fun x vx F1 H1 g1 r1 q1 => ?_) q
  cases x <;> first | exact False.elim q1 | skip
  obtain ⟨rfl, q2, q3⟩ := q1
  cases id r1 with
  | ins s r =>
    refine ⟨_, _, _, rfl, g1.fh _ _ s, r.none q2, ?_⟩
    refine h2 ρ σ F1 H1 _ E _ (rl.go g1) (xp.go g1) (fun ds vs F2 H2 g2 r2 q4 => ?_) q3
    exact ⟨_ :: ds, F2, Qd, E, g2.fh, .cons (r1.mono g2.ff) r2, q4.1, q4.2, fun d v F' H' g r qd => kk d v F' H' ((g1.trans g2).trans g) r qd, fun x cls dx F' H' g r ex => xp x cls dx F' H' ((g1.trans g2).trans g) r ex⟩
/-- a def without defaults -/
structure FN (P : Program) (w : World) (K : PySem.W.Frag) (mg : Str → Option Value) (base : Heap) (k : Nat) (f : Addr) (n : Nat) (G : DF) : Prop where
  ok : ∃ (fd : FuncData) (ps : List Str), FnOk P w K mg base (L2.CX P w) k f fd ps (spD K n G) ∧ Binds K fd ps []
  kp : PySem.W.keepIn K (.ref f) = true
theorem FN.d {P : Program} {w : World} {K : PySem.W.Frag} {mg : Str → Option Value} {base : Heap} {k n : Nat} {f : Addr} {G : DF} (h : FN P w K mg base k f n G) : FD P w K mg base k f n [] G := by
  obtain ⟨fd, ps, F, b⟩ := h.ok
  exact ⟨⟨fd, ps, [], [], F, b, .nil, fun _ => .nil⟩, h.kp⟩
theorem re_meth0 {k n : Nat} {f C : Addr} {G : DF} {m : Str} {apos : Pos} {o : Expr} {pl : Sem Bool} (he : RE X W o t) (c : Cls X.K C) (hm : Meth X.K C m f) (h : FN X.prog X.w X.K X.mg X.base k f n G) (hr : Room k X.A) (tk : Takes X W)
    (ht : eval (.Call (.Attribute o m apos) [] [] pos) X.env = (eval o X.env >>= fun ov => standAt apos.atName >>= fun _ => holding [ov] (getMethod ov m pl) >>= fun (g : Value × List Value) => callWith pos g.1 g.2 (backTo pos (starEach [] X.env)) (backToKw pos (keywordEach [] X.env))) := by rfl) :
    RE X W (.Call (.Attribute o m apos) [] [] pos) (dMeth C m n G t dNil) := by
  obtain ⟨fd, ps, F, bn⟩ := h.ok
  obtain ⟨te, h1, h2⟩ := he.run
  exact ⟨_, pe_methS0 (pl := pl) h1 c hm F hr bn (fun σ => passAt tk σ) ht, fun ρ σ F H Qd E Q rl xp kk q => meth_run (ta := tNil) h2 (fun ρ σ F H Qd E Q rl xp kk q => kk [] [] F H (.refl rl.fh) .nil q) rl xp kk q⟩
/-- one of two readings (a receiver of one of two classes) -/
theorem RE.or {t' : TD} (h : RE X W e t) (h' : RE X W e t') : RE X W e (fun ρ Q E => t ρ Q E ∨ t' ρ Q E) := by
  obtain ⟨te, h1, h2⟩ := h.run
  obtain ⟨te', h1', h2'⟩ := h'.run
  refine ⟨fun σ H Q => te σ H Q ∨ te' σ H Q, ⟨fun pins s σ H Q I hw => hw.elim (h1.run pins s σ H Q I) (h1'.run pins s σ H Q I)⟩, fun ρ σ F H Qd E Q rl xp kk q => ?_⟩
  exact q.elim (fun z => .inl (h2 ρ σ F H Qd E Q rl xp kk z)) fun z => .inr (h2' ρ σ F H Qd E Q rl xp kk z)
end
end Dl

/-! The D-layer, part 5: zip of any two of lists and tuples. -/
namespace Dl
open PySem PySem.Spec
open PyProof.Rows L2
/-- a list (true) or a tuple (false) -/
def SqA (k : Bool) (K : PySem.W.Frag) (H : Hp) (a : Addr) (xs : List V) : Prop := match k with
  | true => SqL K H a xs
  | false => SqT K H a xs
def ItA (k : Bool) (h : Heap) (it a : Addr) (i : Nat) : Prop := match k with
  | true => h.IsListIter it a i
  | false => h.IsTupleIter it a i
def ObA (k : Bool) (h : Heap) (a : Addr) (xs : Array Value) : Prop := match k with
  | true => h.IsList a xs
  | false => h.IsTuple a xs
theorem drawsA {prog : Program} {w : World} {A : Around} (k : Bool) (hh : A.handled = none) (it l : Addr) (ne : l ≠ it) (its : Array Value) :
    Draws prog w A it [it, l] its.size (fun i v => its[i]? = some v) (fun i h => ItA k h it l i ∧ ObA k h l its) := by
  cases k
  · exact Draws.tuple hh it l ne its
  · exact Draws.list hh it l ne its
theorem ItA.there {k : Bool} {h : Heap} {it a : Addr} {i : Nat} (x : ItA k h it a i) : ∃ o, h.get? it = some o ∧ ∀ v, o.data ≠ .cell v := by
  cases k
  · obtain ⟨o, e, _, d⟩ := (show h.IsTupleIter it a i from x); exact ⟨o, e, fun v q => by rw [d] at q; cases q⟩
  · obtain ⟨o, e, _, d⟩ := (show h.IsListIter it a i from x); exact ⟨o, e, fun v q => by rw [d] at q; cases q⟩
theorem ItA.at' {k : Bool} {h h' : Heap} {it a : Addr} {i : Nat} (x : ItA k h it a i) (f : ∀ o, h.get? it = some o → h'.get? it = some o) : ItA k h' it a i := by
  cases k
  · exact (show h.IsTupleIter it a i from x).at f
  · exact (show h.IsListIter it a i from x).at f
section
variable {X : Cx} {pins : List (Addr × Obj)} {σ : L2.St} {H : Hp} {s : Shared} {a : Addr} {xs ys : List V} {k : Bool}
theorem inv_seq (I : Inv X pins σ H s) (h : SqA k X.K H a xs) : ∃ its : List Value, Vals xs its ∧ ObA k s.heap a its.toArray ∧ a < s.heap.objs.size := by
  cases k
  · obtain ⟨its, r, p, _⟩ := I.tuple (show SqT X.K H a xs from h)
    exact ⟨its, r, p, p.lt⟩
  · obtain ⟨its, r, p, _⟩ := I.list (show SqL X.K H a xs from h)
    exact ⟨its, r, p.isList, p.lt⟩
theorem inv_seq_inj (I : Inv X pins σ H s) (h : SqA k X.K H a xs) (h' : SqA k X.K H a ys) : xs = ys := by
  cases k
  · exact I.tuple_inj h h'
  · exact I.list_inj h h'
end
/-- the turns of a zip: while both stand, a new pair -/
def ItzA (k1 k2 : Bool) (K : PySem.W.Frag) (a b : Addr) : It where
  go := fun i H => ∃ (xs ys : List V) (x y : V), SqA k1 K H a xs ∧ SqA k2 K H b ys ∧ xs[i]? = some x ∧ ys[i]? = some y
  yld := fun i H v H' => ∃ (T : Addr) (x y : V), v = .ref T ∧ H T = none ∧ H' = upd H T (.tup [x, y]) ∧ (∀ xs, SqA k1 K H a xs → xs[i]? = some x) ∧ (∀ ys, SqA k2 K H b ys → ys[i]? = some y)
  stop := fun i H => ∃ xs ys : List V, SqA k1 K H a xs ∧ SqA k2 K H b ys ∧ i ≤ xs.length ∧ i ≤ ys.length ∧ (i = xs.length ∨ i = ys.length)
theorem turn_zipM {P : Program} {w : World} {K : PySem.W.Frag} {k1 k2 : Bool} {elts : List Expr} {kk : Nat} {tpos : Pos} {a b z TI TO i1 i2 : Addr} (S : ZipSep2 z TI TO i1 i2 [i1, a] [i2, b]) (na : a ≠ i1) (nb : b ≠ i2) :
    Turn P w K (.Tuple elts kk tpos) (ItzA k1 k2 K a b) [z, TI, TO, i1, i2] z (fun i h => IsZip h z TI TO .none ∧ IsTupOf2 h TI (.ref i1) (.ref i2) ∧ (∃ x y, IsTupOf2 h TO x y) ∧ ItA k1 h i1 a i ∧ ItA k2 h i2 b i) where
  mem := by simp
  obj := by
    rintro i h ⟨hz, hTI, ⟨x, y, hTO⟩, h1, h2⟩ c hc
    have cs : c = z ∨ c = TI ∨ c = TO ∨ c = i1 ∨ c = i2 := by simpa using hc
    rcases cs with rfl | rfl | rfl | rfl | rfl
    · exact ⟨_, hz, fun v q => nomatch q⟩
    · exact ⟨_, hTI, fun v q => nomatch q⟩
    · exact ⟨_, hTO, fun v q => nomatch q⟩
    · exact h1.there
    · exact h2.there
  keep := by
    rintro i h h' ⟨hz, hTI, ⟨x, y, hTO⟩, h1, h2⟩ kp
    exact ⟨kp z (by simp) _ hz, kp TI (by simp) _ hTI, ⟨x, y, kp TO (by simp) _ hTO⟩, h1.at' (kp i1 (by simp)), h2.at' (kp i2 (by simp))⟩
  item := by
    intro X hP hw hK hc i pins s σ H E I hf st hg
    subst hP hw hK
    obtain ⟨hz, hTI, ⟨x0, y0, hTO⟩, h1, h2⟩ := st
    obtain ⟨xs, ys, x, y, sx, sy, hx, hy⟩ := hg
    obtain ⟨its, rv, ob, _⟩ := inv_seq I sx
    obtain ⟨its2, rv2, ob2, _⟩ := inv_seq I sy
    have zl : z < s.heap.objs.size := Heap.lt_size hz
    have lx : i < its.toArray.size := by
      have := (List.getElem?_eq_some_iff.mp hx).1
      rw [List.size_toArray, ← rv.length]; exact this
    have ly : i < its2.toArray.size := by
      have := (List.getElem?_eq_some_iff.mp hy).1
      rw [List.size_toArray, ← rv2.length]; exact this
    have hh := I.ok.hd hc
    have D1 := drawsA (prog := X.prog) (w := X.w) (A := X.A.in1) k1 hh i1 a na its.toArray
    have D2 := drawsA (prog := X.prog) (w := X.w) (A := X.A.in1) k2 hh i2 b nb its2.toArray
    refine wpAny_pyNext_zipD2_item S D1 D2 hz hTI hTO ⟨h1, ob⟩ ⟨h2, ob2⟩ lx ly ?_
    intro u u2 h' tk pu pu2 z' TO' d1 d2 hT hsz hk
    obtain ⟨w1, e1, ru⟩ := rv.get hx
    obtain ⟨w2, e2, ru2⟩ := rv2.get hy
    have q1 : w1 = u := by
      have pu : its.toArray[i]? = some u := pu
      rw [List.getElem?_toArray, e1] at pu
      exact Option.some.inj pu
    have q2 : w2 = u2 := by
      have pu2 : its2.toArray[i]? = some u2 := pu2
      rw [List.getElem?_toArray, e2] at pu2
      exact Option.some.inj pu2
    subst q1; subst q2
    refine ⟨_, rfl, wpAny_letOwnedTupleGo_zip (s := { s with heap := h', toks := tk }) z' fun h'' z'' sb => ?_⟩
    have hT2 := (sb.2 _ (Nat.ne_of_gt zl)).trans hT
    have new : ObjOk X.prog X.w (upd H s.heap.objs.size (.tup [x, y])) h'' s.heap.objs.size (.tup [x, y]) :=
      ⟨by show 2 ≤ sizeLine; decide, [w1, w2], .cons ru (.cons ru2 .nil), _, hT2, rfl, _, rfl⟩
    have kp : ∀ c o, c ∉ [z, TI, TO, i1, i2] → s.heap.get? c = some o → h''.get? c = some o := fun c o nc e => by
      simp only [List.mem_cons, List.not_mem_nil, or_false, not_or] at nc
      exact (sb.2 c nc.1).trans (hk c o nc.1 nc.2.2.1 nc.2.2.2.1 nc.2.2.2.2 e)
    have I1 := I.turnedNew (t' := tk) (ch := [z, TI, TO, i1, i2]) kp hf (Nat.le_refl _) new
    refine ⟨.ref s.heap.objs.size, _, I1, rfl, ⟨_, x, y, rfl, I.hok.fresh (Nat.le_refl _), rfl, fun l hl => ?_, fun l hl => ?_⟩, ⟨z'', ?_, ⟨w1, w2, ?_⟩, ?_, ?_⟩, fun c hcm => ?_⟩
    · rw [inv_seq_inj I hl sx]; exact hx
    · rw [inv_seq_inj I hl sy]; exact hy
    · exact (sb.2 _ S.TIz).trans (hk _ _ S.TIz S.TITO S.TIi1 S.TIi2 hTI)
    · exact (sb.2 _ S.TOz).trans TO'
    · exact d1.1.at' fun o q => (sb.2 _ S.zi1.symm).trans q
    · exact d2.1.at' fun o q => (sb.2 _ S.zi2.symm).trans q
    · have lt : c < s.heap.objs.size := by
        have cs : c = z ∨ c = TI ∨ c = TO ∨ c = i1 ∨ c = i2 := by simpa using hcm
        rcases cs with rfl | rfl | rfl | rfl | rfl
        · exact zl
        · exact Heap.lt_size hTI
        · exact Heap.lt_size hTO
        · obtain ⟨_, e, _⟩ := h1.there; exact Heap.lt_size e
        · obtain ⟨_, e, _⟩ := h2.there; exact Heap.lt_size e
      rw [upd_ne (Nat.ne_of_lt lt)]
      exact (hf c hcm).1
  done := by
    intro X hP hw hK hc i pins s σ H E I hf st hg
    subst hP hw hK
    obtain ⟨hz, hTI, ⟨x0, y0, hTO⟩, h1, h2⟩ := st
    obtain ⟨xs, ys, sx, sy, l1, l2, fin⟩ := hg
    obtain ⟨its, rv, ob, _⟩ := inv_seq I sx
    obtain ⟨its2, rv2, ob2, _⟩ := inv_seq I sy
    have z1 : its.toArray.size = xs.length := by rw [List.size_toArray, ← rv.length]
    have z2 : its2.toArray.size = ys.length := by rw [List.size_toArray, ← rv2.length]
    have hh := I.ok.hd hc
    have D1 := drawsA (prog := X.prog) (w := X.w) (A := X.A.in1) k1 hh i1 a na its.toArray
    have D2 := drawsA (prog := X.prog) (w := X.w) (A := X.A.in1) k2 hh i2 b nb its2.toArray
    refine wpAny_pyNext_zipD2_end S D1 D2 hz hTI hTO ⟨h1, ob⟩ ⟨h2, ob2⟩ (by omega) (by omega) (by omega) fun h' tk hk => ⟨rfl, ?_⟩
    refine I.turnedL (t' := tk) (ch := [z, TI, TO, i1, i2]) (fun c o nc e => ?_) hf
    simp only [List.mem_cons, List.not_mem_nil, or_false, not_or] at nc
    exact hk c o nc.1 nc.2.2.1 nc.2.2.2.1 nc.2.2.2.2 e
  self := fun A i s Q E st h => wpAny_pyIter_zip st.1 h
theorem zip_callA {prog : Program} {w : World} {A : Around} {E : Value → Shared → Prop} {s : Shared} {Q : Value → Shared → Prop} {k1 k2 : Bool} {a b : Addr} {its its2 : Array Value} (h1 : ObA k1 s.heap a its) (h2 : ObA k2 s.heap b its2)
    (h : ∀ h' : Heap, IsZip h' (s.heap.objs.size + 4) (s.heap.objs.size + 2) (s.heap.objs.size + 3) .none → IsTupOf2 h' (s.heap.objs.size + 2) (.ref s.heap.objs.size) (.ref (s.heap.objs.size + 1)) →
      IsTupOf2 h' (s.heap.objs.size + 3) .none .none → ItA k1 h' s.heap.objs.size a 0 → ItA k2 h' (s.heap.objs.size + 1) b 0 →
      (∀ c o, s.heap.get? c = some o → h'.get? c = some o) → Q (.ref (s.heap.objs.size + 4)) { s with heap := h' }) :
    wpAny (model prog w) A (call (.type "zip") [.ref a, .ref b]) Q E s := by
  cases k1 <;> cases k2
  · exact zip_begins2 (begins_tuple a its) (begins_tuple b its2) h1 h2 fun h' q1 q2 q3 q4 q5 _ q7 => h h' q1 q2 q3 ⟨_, q4, rfl, rfl⟩ ⟨_, q5, rfl, rfl⟩ q7
  · exact zip_begins2 (begins_tuple a its) (begins_list b its2) h1 h2 fun h' q1 q2 q3 q4 q5 _ q7 => h h' q1 q2 q3 ⟨_, q4, rfl, rfl⟩ ⟨_, q5, rfl, rfl⟩ q7
  · exact zip_begins2 (begins_list a its) (begins_tuple b its2) h1 h2 fun h' q1 q2 q3 q4 q5 _ q7 => h h' q1 q2 q3 ⟨_, q4, rfl, rfl⟩ ⟨_, q5, rfl, rfl⟩ q7
  · exact zip_begins2 (begins_list a its) (begins_list b its2) h1 h2 fun h' q1 q2 q3 q4 q5 _ q7 => h h' q1 q2 q3 ⟨_, q4, rfl, rfl⟩ ⟨_, q5, rfl, rfl⟩ q7
theorem sepA (n a b : Nat) (la : a < n) (lb : b < n) : ZipSep2 (n + 4) (n + 2) (n + 3) n (n + 1) [n, a] [n + 1, b] := by
  constructor <;> first
    | (show ((_ : Nat) ≠ _); omega)
    | (simp; done)
    | (simp; (first | omega | (intro h; exact absurd h (by omega))))
    | (intro h; rcases List.mem_cons.mp h with h | h
       · exact absurd (show (_ : Nat) = _ from h) (by omega)
       · rcases List.mem_cons.mp h with h | h
         · exact absurd (show (_ : Nat) = _ from h) (by omega)
         · cases h)
theorem leA (n c : Nat) (h : c ∈ [n + 4, n + 2, n + 3, n, n + 1]) : n ≤ c := by
  simp only [List.mem_cons, List.not_mem_nil, or_false] at h
  omega
def iZipM (K : PySem.W.Frag) (ta : TA) : TI := fun σ H R => ta σ H fun vs H1 => ∃ (k1 k2 : Bool) (a b : Addr) (xs ys : List V), vs = [.ref a, .ref b] ∧ SqA k1 K H1 a xs ∧ SqA k2 K H1 b ys ∧ R (ItzA k1 k2 K a b) H1
theorem pi_zipM {X : Cx} {e e2 : Expr} {ta : TA} {p pos tpos : Pos} {elts : List Expr} {kk : Nat} (hg : Gl X "zip") (hm : X.mg "zip" = none) (ha : PA X [e, e2] ta)
    (hs : starEach [e, e2] X.env = (false, eval e X.env) :: starEach [e2] X.env) (hpl : (backTo pos (starEach [e2] X.env)).any (·.1) = false) :
    PI X (.Tuple elts kk tpos) (.Call (.Name "zip" p) [e, e2] [] pos) (iZipM X.K ta) := by
  refine ⟨fun pins s σ H R I h => ?_⟩
  refine Call_ (ld_blt I hg hm PyProof.Rows.boot_zip (PyProof.Rows.callWith_type1 (thn (ha.run pos pins s σ H _ I h) ?_) hs hpl))
  · rintro us s1 ⟨vs, H1, I1, r1, k1, k2, a, b, xs, ys, rfl, sx, sy, q⟩
    obtain ⟨u1, u2, rfl, ra, rb⟩ := vals2 r1
    cases ra; cases rb
    obtain ⟨its, rv, ob, la⟩ := inv_seq I1 sx
    obtain ⟨its2, rv2, ob2, lb⟩ := inv_seq I1 sy
    refine zip_callA ob ob2 fun h' hz hTI hTO h1 h2 hk => wpAny_pyIter_zip hz ?_
    have I2 : Inv X pins σ H1 { s1 with heap := h' } := I1.kept (t' := s1.toks) hk
    have S := sepA s1.heap.objs.size a b la lb
    refine ⟨s1.heap.objs.size + 4, _, _, _, H1, rfl, I2, turn_zipM S (Nat.ne_of_lt la) (Nat.ne_of_lt (Nat.lt_succ_of_lt lb)), ⟨hz, hTI, ⟨_, _, hTO⟩, h1, h2⟩, fun c hcm => ?_, q⟩
    have le : s1.heap.objs.size ≤ c := leA _ _ hcm
    exact I1.fpOk le (I1.hok.fresh le)
/-- n turns of such a zip -/
theorem walk_zipM {K : PySem.W.Frag} {k1 k2 : Bool} {a b : Addr} {xs ys : List V} : Walk (ItzA k1 k2 K a b) (min xs.length ys.length) (fun H => SqA k1 K H a xs ∧ SqA k2 K H b ys) (YPair (fun i => xs[i]?) (fun i => ys[i]?)) := by
  refine ⟨fun i _ hi q => ?_, fun _ q => ⟨xs, ys, q.1, q.2, by omega, by omega, by omega⟩, fun i H v H' _ q y => ?_⟩
  · have h1 : i < xs.length := by omega
    have h2 : i < ys.length := by omega
    exact ⟨xs, ys, xs[i], ys[i], q.1, q.2, by simp [h1], by simp [h2]⟩
  · obtain ⟨T, x, u, h1, h2, h3, h4, h5⟩ := y
    exact ⟨T, x, u, h1, h2, h3, h4 xs q.1, h5 ys q.2⟩
end Dl

/-! The D-layer, part 6: what is walked, comprehensions. -/
namespace Dl
open PySem PySem.Spec
open PyProof.Rows L2
/-- while F is frozen, J goes through ds -/
structure JW (K : PySem.W.Frag) (F : Fz) (J : It) (ds : List D) : Prop where
  go : ∃ (G : Hp → Prop) (Y : Nat → Hp → V → Hp → Prop), Walk J ds.length G Y ∧ (∀ (F' : Fz) (H' : Hp), SameF F F' → Same F' H' → G H') ∧
    ∀ i (F' : Fz) H' x H'', i < ds.length → SameF F F' → Same F' H' → Y i H' x H'' → ∃ F'' d, ds[i]? = some d ∧ Go F' H' F'' H'' ∧ Rep K F'' d x
structure RI (X : Cx) (W : WX) (tg iter : Expr) (t : TDs) : Prop where
  run : ∃ wi, PI X tg iter wi ∧ ∀ (ρ : Env') (σ : L2.St) (F : Fz) (H : Hp) (Qd : List D → Prop) (E : EQ) (R : It → Hp → Prop), Rl X.K ρ σ F H → XP X.K W σ F H E →
    (∀ ds J F' H', Go F H F' H' → JW X.K F' J ds → ds.length ≤ sizeLine → Qd ds → R J H') → t ρ Qd E → wi σ H R
section
variable {X : Cx} {W : WX} {tg e a b c : Expr} {es : List Expr} {t ta tb tc : TD} {ts : TDs} {pos : Pos}
theorem jw_seq {K : PySem.W.Frag} {F : Fz} {J : It} {ds : List D} {vs : List V} {G : Hp → Prop} (w : Walk J vs.length G (YAt vs)) (hg : ∀ (F' : Fz) (H' : Hp), SameF F F' → Same F' H' → G H') (r : Reps K F ds vs) : JW K F J ds := by
  refine ⟨G, YAt vs, by rw [← r.length]; exact w, hg, fun i F' H' x H'' hi e1 e2 y => ?_⟩
  obtain ⟨rfl, y⟩ := y
  obtain ⟨d, h1, h2⟩ := r.get' y
  exact ⟨F', d, h1, .refl e2, h2.mono e1⟩
/-- over a list or a tuple -/
def asSeq (Q : List D → Prop) : EQ
  | .lst ds => Q ds
  | .frl ds => Q ds
  | .tup ds => Q ds
  | .mu ds => Q ds
  | _ => False
theorem asSeq_inv {Q : List D → Prop} {d : D} (h : asSeq Q d) : ∃ ds, (d = .lst ds ∨ d = .frl ds ∨ d = .tup ds ∨ d = .mu ds) ∧ Q ds := by
  cases d <;> first | exact False.elim h | skip
  · exact ⟨_, .inr (.inr (.inl rfl)), h⟩
  · exact ⟨_, .inl rfl, h⟩
  · exact ⟨_, .inr (.inl rfl), h⟩
  · exact ⟨_, .inr (.inr (.inr rfl)), h⟩
def dSeq (t : TD) : TDs := fun ρ Q E => t ρ (asSeq Q) E
theorem ri_seq (h : RE X W e t) : RI X W tg e (dSeq t) := by
  obtain ⟨te, h1, h2⟩ := h.run
  let wi : TI := fun σ H R => te σ H fun x H1 => ∃ a, x = .ref a ∧ (((∃ xs, SqL X.K H1 a xs) ∧ R (Itl X.K a) H1) ∨ ((∃ xs, SqT X.K H1 a xs) ∧ R (Itt X.K a) H1))
  have hp : PI X tg e wi := by
    refine ⟨fun pins s σ H R I q => ?_⟩
    refine thn (h1.run pins s σ H _ I q) fun v s1 ⟨x, H1, I1, r1, a, ex, q1⟩ => ?_
    subst ex
    cases r1
    rcases q1 with ⟨⟨xs, hq⟩, q1⟩ | ⟨⟨xs, hq⟩, q1⟩
    · obtain ⟨its, rv, p, hz⟩ := I1.list hq
      refine wpAny_pyIter_list p.isList ?_
      refine ⟨s1.heap.objs.size, [s1.heap.objs.size], _, _, H1, rfl, I1.kept (t' := s1.toks) fun b o e => Heap.get?_push_of_some _ e, turn_list a _, ⟨_, Heap.get?_push_size _ rfl, rfl, rfl⟩, fun b hb => ?_, q1⟩
      rw [List.mem_singleton.mp hb]
      exact I1.fpOk (Nat.le_refl _) (I1.hok.fresh (Nat.le_refl _))
    · obtain ⟨its, rv, p, hz⟩ := I1.tuple hq
      refine wpAny_pyIter_tuple (show s1.heap.IsTuple a its.toArray from p) ?_
      refine ⟨s1.heap.objs.size, [s1.heap.objs.size], _, _, H1, rfl, I1.kept (t' := s1.toks) fun b o e => Heap.get?_push_of_some _ e, turn_tuple a _, ⟨_, Heap.get?_push_size _ rfl, rfl, rfl⟩, fun b hb => ?_, q1⟩
      rw [List.mem_singleton.mp hb]
      exact I1.fpOk (Nat.le_refl _) (I1.hok.fresh (Nat.le_refl _))
  refine ⟨wi, hp, fun ρ σ F H Qd E R rl xp kk q => h2 ρ σ F H _ E _ rl xp (fun d v F1 H1 g1 r1 q1 => ?_) q⟩
  obtain ⟨ds, hd, q2⟩ := asSeq_inv q1
  rcases hd with rfl | rfl | rfl | rfl
  · cases r1 with
    | lst s _ l r =>
      exact ⟨_, rfl, .inl ⟨⟨_, SqL.of (g1.fh _ _ s)⟩, kk ds _ F1 H1 g1 (jw_seq walk_list (fun F' H' e1 e2 => SqL.of (e2 _ _ (e1.s _ _ s))) r) (by rw [← r.length]; exact l) q2⟩⟩
  · cases r1 with
    | frl s l r =>
      have s := same_seqL F1.kh_same s
      exact ⟨_, rfl, .inl ⟨⟨_, same_seqL g1.fh s⟩, kk ds _ F1 H1 g1 (jw_seq walk_list (fun F' H' e1 e2 => same_seqL e2 (same_seqL e1.s s)) r) (by rw [← r.length]; exact l) q2⟩⟩
  · cases r1 with
    | tup s l r =>
      exact ⟨_, rfl, .inr ⟨⟨_, same_seqT g1.fh (SqT.of s)⟩, kk ds _ F1 H1 g1 (jw_seq walk_tup (fun F' H' e1 e2 => same_seqT e2 (same_seqT e1.s (SqT.of s))) r) (by rw [← r.length]; exact l) q2⟩⟩
  · cases r1 with
    | mu s _ l r =>
      exact ⟨_, rfl, .inl ⟨⟨_, SqL.of (g1.fh _ _ s)⟩, kk ds _ F1 H1 g1 (jw_seq walk_list (fun F' H' e1 e2 => SqL.of (e2 _ _ (e1.s _ _ s))) r) (by rw [← r.length]; exact l) q2⟩⟩
/-- lo, lo + 1, .. -/
def irg (lo : Int) : Nat → List D
  | 0 => []
  | n + 1 => .int lo :: irg (lo + 1) n
theorem irg_len (n : Nat) : ∀ lo : Int, (irg lo n).length = n := by
  induction n with
  | zero => intro lo; rfl
  | succ n ih => intro lo; show (irg (lo + 1) n).length + 1 = n + 1; rw [ih]
theorem irg_get (n : Nat) : ∀ (lo : Int) (i : Nat), i < n → (irg lo n)[i]? = some (.int (lo + i)) := by
  induction n with
  | zero => intro lo i h; omega
  | succ n ih =>
    intro lo i h
    cases i with
    | zero => show some (D.int lo) = _; rw [show lo + ((0 : Nat) : Int) = lo by omega]
    | succ i =>
      show (irg (lo + 1) n)[i]? = _
      rw [ih (lo + 1) i (by omega)]
      rw [show lo + 1 + (i : Int) = lo + ((i + 1 : Nat) : Int) by omega]
theorem jw_range {K : PySem.W.Frag} {F : Fz} (lo : Int) (n : Nat) : JW K F (Itr lo n) (irg lo n) := by
  refine ⟨fun _ => True, YFn fun i => .int (lo + i), by rw [irg_len]; exact walk_range, fun _ _ _ _ => trivial, fun i F' H' x H'' hi e1 e2 y => ?_⟩
  obtain ⟨rfl, rfl⟩ := y
  rw [irg_len] at hi
  exact ⟨F', _, irg_get n lo i hi, .refl e2, .int _⟩
def dRng1 (t : TD) : TDs := fun ρ Q E => t ρ (asI fun j => j ≤ 16777216 ∧ -16777216 ≤ j ∧ Q (irg 0 j.toNat)) E
theorem ri_range1 {p : Pos} (h : RP X W a t) (hm : X.mg "range" = none) (hg : Gl X "range" := by rfl) (hs : starEach [a] X.env = (false, eval a X.env) :: starEach [] X.env := by rfl) : RI X W tg (.Call (.Name "range" p) [a] [] pos) (dRng1 t) := by
  obtain ⟨te, h1, h2⟩ := h.run
  refine ⟨_, pi_range1 hg hm (pa_cons h1 pa_nil hs) hs, fun ρ σ F H Qd E R rl xp kk q => h2 ρ σ F H _ E _ rl xp (fun d v F1 H1 g1 r1 q1 => ?_) q⟩
  obtain ⟨j, rfl, z1, z2, q2⟩ := asI_inv q1
  cases r1.int
  exact ⟨j, rfl, by omega, by omega, kk _ _ F1 H1 g1 (jw_range 0 j.toNat) (by rw [irg_len, sizeLine_eq]; omega) q2⟩
/-- pairs -/
def pairs : List D → List D → List D
  | x :: xs, y :: ys => .tup [x, y] :: pairs xs ys
  | _, _ => []
theorem pairs_len : ∀ xs ys : List D, (pairs xs ys).length = min xs.length ys.length
  | [], _ => by simp [pairs]
  | _ :: _, [] => by simp [pairs]
  | x :: xs, y :: ys => by simp only [pairs, List.length_cons, pairs_len xs ys]; omega
theorem pairs_get : ∀ {xs ys : List D} {i : Nat} {x y : D}, xs[i]? = some x → ys[i]? = some y → (pairs xs ys)[i]? = some (.tup [x, y])
  | [], _, _, _, _, h, _ => by simp at h
  | _ :: _, [], _, _, _, _, h => by simp at h
  | _ :: _, _ :: _, 0, _, _, h, h' => by simp at h h'; subst h; subst h'; rfl
  | _ :: xs, _ :: ys, i + 1, _, _, h, h' => by
    simp only [pairs, List.getElem?_cons_succ]
    exact pairs_get (by simpa using h) (by simpa using h')
theorem jw_pair {K : PySem.W.Frag} {F : Fz} {J : It} {ds es : List D} {G : Hp → Prop} {xs ys : Nat → Option V} (w : Walk J (min ds.length es.length) G (YPair xs ys)) (hg : ∀ (F' : Fz) (H' : Hp), SameF F F' → Same F' H' → G H')
    (r : ∀ i x, xs i = some x → i < ds.length → ∃ d, ds[i]? = some d ∧ Rep K F d x) (r' : ∀ i x, ys i = some x → i < es.length → ∃ d, es[i]? = some d ∧ Rep K F d x) : JW K F J (pairs ds es) := by
  refine ⟨G, YPair xs ys, by rw [pairs_len]; exact w, hg, fun i F' H' v H'' hi e1 e2 y => ?_⟩
  rw [pairs_len] at hi
  obtain ⟨T, x, u, rfl, nT, rfl, hx, hy⟩ := y
  obtain ⟨d, h1, h2⟩ := r i x hx (by omega)
  obtain ⟨d', h1', h2'⟩ := r' i u hy (by omega)
  obtain ⟨g, rr⟩ := Go.tup (K := K) (ds := [d, d']) e2 (.cons (h2.mono e1) (.cons (h2'.mono e1) .nil)) (by show 2 ≤ sizeLine; rw [sizeLine_eq]; decide) nT
  exact ⟨_, _, pairs_get h1 h1', g, rr⟩
def dZip (ta tb : TD) : TDs := fun ρ Q E => ta ρ (asSeq fun xs => tb ρ (asSeq fun ys => Q (pairs xs ys)) E) E
theorem rep_seq {K : PySem.W.Frag} {F : Fz} {H : Hp} {d : D} {v : V} {ds : List D} (r : Rep K F d v) (e : d = .lst ds ∨ d = .frl ds ∨ d = .tup ds ∨ d = .mu ds) : ∃ (k : Bool) (a : Addr) (vs : List V), v = .ref a ∧ SqA k K F a vs ∧ vs.length ≤ sizeLine ∧ Reps K F ds vs := by
  rcases e with rfl | rfl | rfl | rfl
  · cases r with
    | lst s _ l r => exact ⟨true, _, _, rfl, SqL.of s, l, r⟩
  · cases r with
    | frl s l r => exact ⟨true, _, _, rfl, same_seqL F.kh_same s, l, r⟩
  · cases r with
    | tup s l r => exact ⟨false, _, _, rfl, SqT.of s, l, r⟩
  · cases r with
    | mu s _ l r => exact ⟨true, _, _, rfl, SqL.of s, l, r⟩
theorem same_seqA {k : Bool} {K : PySem.W.Frag} {H H' : Hp} {a : Addr} {xs : List V} (e : Same H H') (h : SqA k K H a xs) : SqA k K H' a xs := by
  cases k
  · exact same_seqT e h
  · exact same_seqL e h
theorem ri_zip {p tpos : Pos} {elts : List Expr} {kk : Nat} (h : RE X W a ta) (h' : RE X W b tb) (hm : X.mg "zip" = none) (hg : Gl X "zip" := by rfl) (hs : starEach [a, b] X.env = (false, eval a X.env) :: starEach [b] X.env := by rfl) (hs2 : starEach [b] X.env = (false, eval b X.env) :: starEach [] X.env := by rfl)
    (hpl : (backTo pos (starEach [b] X.env)).any (·.1) = false := by rfl) : RI X W (.Tuple elts kk tpos) (.Call (.Name "zip" p) [a, b] [] pos) (dZip ta tb) := by
  obtain ⟨te, h1, h2⟩ := h.run
  obtain ⟨te', h1', h2'⟩ := h'.run
  refine ⟨_, pi_zipM hg hm (pa_cons h1 (pa_cons h1' pa_nil hs2) hs) hs hpl, fun ρ σ F H Qd E R rl xp kk q => h2 ρ σ F H _ E _ rl xp (fun d v F1 H1 g1 r1 q1 => ?_) q⟩
  obtain ⟨ds, hd, q2⟩ := asSeq_inv q1
  refine h2' ρ σ F1 H1 _ E _ (rl.go g1) (xp.go g1) (fun d' v' F2 H2 g2 r2 q3 => ?_) q2
  obtain ⟨es, he, q4⟩ := asSeq_inv q3
  obtain ⟨k1, a1, vs, rfl, s1, l1, rs1⟩ := rep_seq (H := H2) (r1.mono g2.ff) hd
  obtain ⟨k2, a2, ws, rfl, s2, l2, rs2⟩ := rep_seq (H := H2) r2 he
  have w : Walk (ItzA k1 k2 X.K a1 a2) (min ds.length es.length) (fun H => SqA k1 X.K H a1 vs ∧ SqA k2 X.K H a2 ws) (YPair (fun i => vs[i]?) (fun i => ws[i]?)) := by
    rw [← rs1.length, ← rs2.length]; exact walk_zipM
  have jw : JW X.K F2 (ItzA k1 k2 X.K a1 a2) (pairs ds es) :=
    jw_pair w (fun F' H' e1 e2 => ⟨same_seqA e2 (same_seqA e1.s s1), same_seqA e2 (same_seqA e1.s s2)⟩) (fun i x hx _ => rs1.get' hx) fun i x hx _ => rs2.get' hx
  refine ⟨k1, k2, a1, a2, vs, ws, rfl, same_seqA g2.fh s1, same_seqA g2.fh s2, kk _ _ F2 H2 (g1.trans g2) jw ?_ q4⟩
  rw [pairs_len, ← rs1.length]
  exact Nat.le_trans (Nat.min_le_left _ _) l1
/-! ### targets -/
abbrev DG := D → Env' → (Env' → Prop) → Prop
/-- a target that stores at the slots js alone -/
structure RG (X : Cx) (tg : Expr) (js : List Nat) (g : DG) : Prop where
  run : ∃ tg', PG X tg tg' ∧ ∀ (ρ : Env') (σ : L2.St) (F : Fz) (H : Hp) (d : D) (v : V) (Qd : Env' → Prop) (Q : L2.St → Hp → Prop), ρ.length = σ.length → Same F H → Rep X.K F d v →
    (∀ ρ' σ' (us : List (Nat × D × V)), ρ' = us.foldl (fun r u => r.set u.1 (.sh u.2.1)) ρ → σ' = us.foldl (fun s u => s.set u.1 (some u.2.2)) σ → (∀ u ∈ us, u.1 ∈ js ∧ Rep X.K F u.2.1 u.2.2) → Qd ρ' → Q σ' H) → g d ρ Qd → tg' v σ H Q
structure RGs (X : Cx) (tgs : List Expr) (js : List Nat) (g : List D → Env' → (Env' → Prop) → Prop) : Prop where
  run : ∃ tg', PGs X tgs tg' ∧ ∀ (ρ : Env') (σ : L2.St) (F : Fz) (H : Hp) (ds : List D) (vs : List V) (Qd : Env' → Prop) (Q : L2.St → Hp → Prop), ρ.length = σ.length → Same F H → Reps X.K F ds vs →
    (∀ ρ' σ' (us : List (Nat × D × V)), ρ' = us.foldl (fun r u => r.set u.1 (.sh u.2.1)) ρ → σ' = us.foldl (fun s u => s.set u.1 (some u.2.2)) σ → (∀ u ∈ us, u.1 ∈ js ∧ Rep X.K F u.2.1 u.2.2) → Qd ρ' → Q σ' H) → g ds ρ Qd → tg' vs σ H Q
def gNm (i : Nat) : DG := fun d ρ Q => Q (ρ.set i (.sh d))
theorem rg_name (i : Nat) {x : Str} (hN : X.N.Nodup) (hi : X.N[i]? = some x := by rfl) (hx : Loc X.env.scope x := by first | exact Or.inl rfl | exact Or.inr rfl) (hf : X.fn x = true ∨ X.env.scope.names.lookup x = some .local := by first | exact .inl rfl | exact .inr rfl) : RG X (.Name x pos) [i] (gNm i) := by
  refine ⟨_, pg_name hN hi hx hf, fun ρ σ F H d v Qd Q hl e r kk q => ?_⟩
  exact kk _ _ [(i, d, v)] rfl rfl (fun u hu => by rw [List.mem_singleton.mp hu]; exact ⟨List.mem_singleton.mpr rfl, r⟩) q
def gNl : List D → Env' → (Env' → Prop) → Prop := fun ds ρ Q => match ds with
  | [] => Q ρ
  | _ => False
def gCs (g : DG) (u : List D → Env' → (Env' → Prop) → Prop) : List D → Env' → (Env' → Prop) → Prop := fun ds ρ Q => match ds with
  | d :: ds => g d ρ fun ρ' => u ds ρ' Q
  | _ => False
theorem rgs_nil : RGs X [] [] gNl := by
  refine ⟨_, pgs_nil, fun ρ σ F H ds vs Qd Q hl e r kk q => ?_⟩
  cases ds with
  | cons d ds => exact False.elim q
  | nil => cases r; exact ⟨rfl, kk ρ σ [] rfl rfl (fun u hu => by cases hu) q⟩
theorem fold_len {α β : Type} (f : β → Nat × α) : ∀ (us : List β) (l : List α), (us.foldl (fun r u => r.set (f u).1 (f u).2) l).length = l.length
  | [], _ => rfl
  | u :: us, l => by rw [List.foldl_cons, fold_len f us, List.length_set]
theorem rgs_cons {js js' : List Nat} {g : DG} {u : List D → Env' → (Env' → Prop) → Prop} (h : RG X e js g) (hr : RGs X es js' u) (hs : (assignEach (e :: es) X.env).map (·.2) = assign e X.env :: (assignEach es X.env).map (·.2) := by rfl) : RGs X (e :: es) (js ++ js') (gCs g u) := by
  obtain ⟨g1, h1, h2⟩ := h.run
  obtain ⟨g2, a1, a2⟩ := hr.run
  refine ⟨_, pgs_cons h1 a1 hs, fun ρ σ F H ds vs Qd Q hl e r kk q => ?_⟩
  cases ds with
  | nil => exact False.elim q
  | cons d ds =>
    cases r with
    | cons r rr =>
      refine ⟨_, _, rfl, h2 ρ σ F H d _ _ _ hl e r (fun ρ' σ' us e1 e2 hu q1 => ?_) q⟩
      have hl' : ρ'.length = σ'.length := by
        rw [e1, e2, fold_len (fun u : Nat × D × V => (u.1, Sl.sh u.2.1)), fold_len (fun u : Nat × D × V => (u.1, some u.2.2))]; exact hl
      refine a2 ρ' σ' F H ds _ _ _ hl' e rr (fun ρ2 σ2 us2 e3 e4 hu2 q2 => ?_) q1
      refine kk ρ2 σ2 (us ++ us2) (by rw [List.foldl_append, ← e1]; exact e3) (by rw [List.foldl_append, ← e2]; exact e4) (fun u hu' => ?_) q2
      rcases List.mem_append.mp hu' with z | z
      · exact ⟨List.mem_append_left _ (hu u z).1, (hu u z).2⟩
      · exact ⟨List.mem_append_right _ (hu2 u z).1, (hu2 u z).2⟩
def gTp (n : Nat) (u : List D → Env' → (Env' → Prop) → Prop) : DG := fun d ρ Q => match d with
  | .tup ds => ds.length = n ∧ u ds ρ Q
  | _ => False
theorem rg_tup {k n : Nat} {js : List Nat} {u : List D → Env' → (Env' → Prop) → Prop} (h : RGs X es js u) (hc : X.calm = true := by rfl) (hn : (assignEach es X.env).length = n := by rfl) (hst : (assignEach es X.env).findIdx? (·.1) = none := by rfl) : RG X (.Tuple es k pos) js (gTp n u) := by
  obtain ⟨g1, h1, h2⟩ := h.run
  refine ⟨_, pg_tup hc h1 hn hst, fun ρ σ F H d v Qd Q hl e r kk q => ?_⟩
  cases d <;> first | exact False.elim q | skip
  cases r with
  | tup s l r => exact ⟨_, _, rfl, SqT.of (e _ _ s), by rw [r.length]; exact q.1, h2 ρ σ F H _ _ _ _ hl e r kk q.2⟩
end
end Dl

/-! The D-layer, part 7: comprehensions. -/
namespace Dl
open PySem PySem.Spec
open PyProof.Rows L2
def wipeD (ρ : Env') : List Nat → Env'
  | [] => ρ
  | v :: vs => (wipeD ρ vs).set v .no
theorem wipeD_len (ρ : Env') : ∀ vs : List Nat, (wipeD ρ vs).length = ρ.length
  | [] => rfl
  | v :: vs => by unfold wipeD; rw [List.length_set, wipeD_len ρ vs]
theorem wipeD_get {ρ : Env'} {i : Nat} {x : Sl} : ∀ {vs : List Nat}, (wipeD ρ vs)[i]? = some x → x ≠ .no → i ∉ vs ∧ ρ[i]? = some x
  | [], h, _ => ⟨by simp, h⟩
  | v :: vs, h, ne => by
    unfold wipeD at h
    by_cases hi : v = i
    · subst hi
      by_cases hl : v < (wipeD ρ vs).length
      · rw [List.getElem?_set_self hl] at h; cases h; exact absurd rfl ne
      · rw [List.getElem?_eq_none (by simpa using hl)] at h; cases h
    · rw [List.getElem?_set_ne hi] at h
      obtain ⟨h1, h2⟩ := wipeD_get h ne
      exact ⟨by simp only [List.mem_cons, not_or]; exact ⟨fun e => hi e.symm, h1⟩, h2⟩
theorem wipe_at {σ : L2.St} {i : Nat} : ∀ {vs : List Nat}, (L2.wipe σ vs)[i]? = if i ∈ vs ∧ i < σ.length then some none else σ[i]?
  | [] => by simp [L2.wipe]
  | v :: vs => by
    unfold L2.wipe
    by_cases hi : v = i
    · subst hi
      by_cases hl : v < σ.length
      · rw [List.getElem?_set_self (by rw [L2.wipe_length]; exact hl), if_pos ⟨by simp, hl⟩]
      · rw [if_neg (fun h => hl h.2), List.getElem?_eq_none (by rw [List.length_set, L2.wipe_length]; omega), List.getElem?_eq_none (by omega)]
    · rw [List.getElem?_set_ne hi, wipe_at (vs := vs)]
      have : (i ∈ v :: vs) = (i ∈ vs) := by
        rw [List.mem_cons]
        exact propext ⟨fun h => h.resolve_left (fun e => hi e.symm), .inr⟩
      simp only [this]
theorem wipe_set {σ : L2.St} {vs : List Nat} {i : Nat} {x : Option V} (h : i ∈ vs) : L2.wipe (σ.set i x) vs = L2.wipe σ vs := by
  refine List.ext_getElem? fun j => ?_
  rw [wipe_at, wipe_at, List.length_set]
  by_cases hj : i = j
  · subst hj
    by_cases hl : i < σ.length
    · rw [if_pos ⟨h, hl⟩, if_pos ⟨h, hl⟩]
    · rw [if_neg (fun z => hl z.2), if_neg (fun z => hl z.2), List.getElem?_eq_none (by rw [List.length_set]; omega), List.getElem?_eq_none (by omega)]
  · rw [List.getElem?_set_ne hj]
theorem wipe_wipe {σ : L2.St} {vs : List Nat} : L2.wipe (L2.wipe σ vs) vs = L2.wipe σ vs := by
  refine List.ext_getElem? fun j => ?_
  rw [wipe_at, wipe_at, L2.wipe_length]
  by_cases h : j ∈ vs ∧ j < σ.length
  · rw [if_pos h, if_pos h]
  · rw [if_neg h, if_neg h]
theorem wipe_fold {vs : List Nat} : ∀ (us : List (Nat × D × V)) (σ : L2.St), (∀ u ∈ us, u.1 ∈ vs) → L2.wipe (us.foldl (fun s u => s.set u.1 (some u.2.2)) σ) vs = L2.wipe σ vs
  | [], _, _ => rfl
  | u :: us, σ, h => by
    rw [List.foldl_cons, wipe_fold us _ fun u hu => h u (List.mem_cons_of_mem _ hu), wipe_set (h u List.mem_cons_self)]
theorem Rl.wipe {K : PySem.W.Frag} {ρ : Env'} {σ : L2.St} {F : Fz} {H : Hp} (r : Rl K ρ σ F H) (vs : List Nat) : Rl K (wipeD ρ vs) (L2.wipe σ vs) F H := by
  have key : ∀ {i : Nat} {x : Sl}, (wipeD ρ vs)[i]? = some x → x ≠ .no → ρ[i]? = some x ∧ (L2.wipe σ vs)[i]? = σ[i]? := fun {i x} h ne => by
    obtain ⟨h1, h2⟩ := wipeD_get h ne
    exact ⟨h2, by rw [wipe_at, if_neg fun z => h1 z.1]⟩
  refine ⟨by rw [wipeD_len, L2.wipe_length]; exact r.len, r.fh, fun i d e => ?_, fun i ds e => ?_, fun i C fs e => ?_, fun i kvs e => ?_, fun i j s t v e1 o1 e2 o2 e3 e4 => ?_⟩
  · obtain ⟨h1, h2⟩ := key e (fun z => nomatch z)
    rw [h2]; exact r.sh i d h1
  · obtain ⟨h1, h2⟩ := key e (fun z => nomatch z)
    rw [h2]; exact r.ow i ds h1
  · obtain ⟨h1, h2⟩ := key e (fun z => nomatch z)
    rw [h2]; exact r.oi i C fs h1
  · obtain ⟨h1, h2⟩ := key e (fun z => nomatch z)
    rw [h2]; exact r.od i kvs h1
  · obtain ⟨h1, h2⟩ := key e1 (fun z => by subst z; cases o1)
    obtain ⟨h1', h2'⟩ := key e2 (fun z => by subst z; cases o2)
    rw [h2] at e3; rw [h2'] at e4
    exact r.inj i j s t v h1 o1 h1' o2 e3 e4
theorem Rl.set {K : PySem.W.Frag} {ρ : Env'} {σ : L2.St} {F : Fz} {H : Hp} (r : Rl K ρ σ F H) (i : Nat) {d : D} {v : V} (rd : Rep K F d v) : Rl K (ρ.set i (.sh d)) (σ.set i (some v)) F H := by
  have key : ∀ {j : Nat} {x : Sl}, (ρ.set i (.sh d))[j]? = some x → x.own = true → ρ[j]? = some x ∧ (σ.set i (some v))[j]? = σ[j]? := fun {j x} h o => by
    by_cases hj : i = j
    · subst hj
      by_cases hl : i < ρ.length
      · rw [List.getElem?_set_self hl] at h; cases h; cases o
      · rw [List.getElem?_eq_none (by rw [List.length_set]; omega)] at h; cases h
    · rw [List.getElem?_set_ne hj] at h ⊢
      exact ⟨h, rfl⟩
  refine ⟨by rw [List.length_set, List.length_set]; exact r.len, r.fh, fun j d' e => ?_, fun j ds e => ?_, fun j C fs e => ?_, fun j kvs e => ?_, fun j k s t w e1 o1 e2 o2 e3 e4 => ?_⟩
  · by_cases hj : i = j
    · subst hj
      have hl : i < ρ.length := by
        have z := (List.getElem?_eq_some_iff.mp e).1
        rw [List.length_set] at z; exact z
      rw [List.getElem?_set_self hl] at e
      cases e
      exact ⟨v, List.getElem?_set_self (by rw [← r.len]; exact hl), rd⟩
    · rw [List.getElem?_set_ne hj] at e ⊢
      exact r.sh j d' e
  · obtain ⟨h1, h2⟩ := key e rfl
    rw [h2]; exact r.ow j ds h1
  · obtain ⟨h1, h2⟩ := key e rfl
    rw [h2]; exact r.oi j C fs h1
  · obtain ⟨h1, h2⟩ := key e rfl
    rw [h2]; exact r.od j kvs h1
  · obtain ⟨h1, h2⟩ := key e1 o1
    obtain ⟨h1', h2'⟩ := key e2 o2
    rw [h2] at e3; rw [h2'] at e4
    exact r.inj j k s t w h1 o1 h1' o2 e3 e4
theorem Rl.sets {K : PySem.W.Frag} {F : Fz} {H : Hp} : ∀ (us : List (Nat × D × V)) {ρ : Env'} {σ : L2.St}, Rl K ρ σ F H → (∀ u ∈ us, Rep K F u.2.1 u.2.2) → Rl K (us.foldl (fun r u => r.set u.1 (.sh u.2.1)) ρ) (us.foldl (fun s u => s.set u.1 (some u.2.2)) σ) F H
  | [], _, _, r, _ => r
  | u :: us, _, _, r, h => Rl.sets us (r.set u.1 (h u List.mem_cons_self)) fun v hv => h v (List.mem_cons_of_mem _ hv)
/-! ### [elt for tg in iter if ..] -/
abbrev W0 : WX := fun _ _ _ _ => False
theorem xp0 {K : PySem.W.Frag} {σ : L2.St} {F : Fz} {H : Hp} : XP K W0 σ F H fun _ => False := fun _ _ _ _ _ _ _ h => h
def compR (g : DG) (tt : TDb) (te : TD) (ρ : Env') (Q : List D → Prop) : List D → List D → Prop
  | [], acc => Q acc
  | d :: ds, acc => g d ρ fun ρ2 => tt ρ2 (fun b => ifP b (te ρ2 (fun y => compR g tt te ρ Q ds (acc ++ [y])) (fun _ => False)) (compR g tt te ρ Q ds acc)) fun _ => False
/-- the same, shut -/
structure compL (g : DG) (tt : TDb) (te : TD) (ρ : Env') (Q : List D → Prop) (ds acc : List D) : Prop where
  out : compR g tt te ρ Q ds acc
def dYes : TDb := fun _ Q _ => Q true
structure RTs (X : Cx) (W : WX) (ifs : List Expr) (t : TDb) : Prop where
  run : ∃ tt, PTs X ifs tt ∧ ∀ (ρ : Env') (σ : L2.St) (F : Fz) (H : Hp) (Qd : Bool → Prop) (E : EQ) (Q : Bool → Hp → Prop), Rl X.K ρ σ F H → XP X.K W σ F H E →
    (∀ b F' H', Go F H F' H' → Qd b → Q b H') → t ρ Qd E → tt σ H Q
theorem rts_nil {X : Cx} {W : WX} : RTs X W [] dYes := ⟨_, pts_nil, fun ρ σ F H Qd E Q rl xp kk q => kk _ F H (.refl rl.fh) q⟩
theorem rts_one {X : Cx} {W : WX} {c : Expr} {t : TDb} (h : RT X W c t) : RTs X W [c] t := by
  obtain ⟨te, h1, h2⟩ := h.run
  exact ⟨_, pts_one h1, h2⟩
/-- a reading of values that is worth a reading of trees -/
def liftE (K : PySem.W.Frag) (W : WX) (t : TD) : TE := fun σ H Q => ∃ (ρ : Env') (F : Fz) (Qd E : EQ), Rl K ρ σ F H ∧ XP K W σ F H E ∧ (∀ d v F' H', Go F H F' H' → Rep K F' d v → Qd d → Q v H') ∧ t ρ Qd E
theorem RE.lift {X : Cx} {W : WX} {e : Expr} {t : TD} (h : RE X W e t) : PE X e (liftE X.K W t) := by
  obtain ⟨te, h1, h2⟩ := h.run
  refine ⟨fun pins s σ H Q I ⟨ρ, F, Qd, E, rl, xp, kk, q⟩ => h1.run pins s σ H Q I (h2 ρ σ F H Qd E Q rl xp kk q)⟩
def liftT (K : PySem.W.Frag) (W : WX) (t : TDb) : TT := fun σ H Q => ∃ (ρ : Env') (F : Fz) (Qd : Bool → Prop) (E : EQ), Rl K ρ σ F H ∧ XP K W σ F H E ∧ (∀ d F' H', Go F H F' H' → Qd d → Q d H') ∧ t ρ Qd E
theorem RTs.lift {X : Cx} {W : WX} {e : List Expr} {t : TDb} (h : RTs X W e t) : PTs X e (liftT X.K W t) := by
  obtain ⟨te, h1, h2⟩ := h.run
  refine ⟨fun pins s σ H Q I ⟨ρ, F, Qd, E, rl, xp, kk, q⟩ => h1.run pins s σ H Q I (h2 ρ σ F H Qd E Q rl xp kk q)⟩
def liftG (K : PySem.W.Frag) (js : List Nat) (g : DG) : TG := fun v σ H Q => ∃ (ρ : Env') (F : Fz) (d : D) (Qd : Env' → Prop), ρ.length = σ.length ∧ Same F H ∧ Rep K F d v ∧
    (∀ ρ' σ' (us : List (Nat × D × V)), ρ' = us.foldl (fun r u => r.set u.1 (.sh u.2.1)) ρ → σ' = us.foldl (fun s u => s.set u.1 (some u.2.2)) σ → (∀ u ∈ us, u.1 ∈ js ∧ Rep K F u.2.1 u.2.2) → Qd ρ' → Q σ' H) ∧ g d ρ Qd
theorem RG.lift {X : Cx} {e : Expr} {js : List Nat} {g : DG} (h : RG X e js g) : PG X e (liftG X.K js g) := by
  obtain ⟨te, h1, h2⟩ := h.run
  refine ⟨fun pins s σ H v u Q I r ⟨ρ, F, d, Qd, hl, e, rd, kk, q⟩ => h1.run pins s σ H v u Q I r (h2 ρ σ F H d v Qd Q hl e rd kk q)⟩
def dLc (ti : TDs) (g : DG) (tt : TDb) (te : TD) (vs : List Nat) : TD := fun ρ Q E => ti ρ (fun ds => compL g tt te (wipeD ρ vs) (fun r => Q (.lst r)) ds []) E
/-- a list that is new and nobody else's -/
structure RN (X : Cx) (W : WX) (e : Expr) (t : TDs) : Prop where
  run : ∃ te, PE X e te ∧ ∀ (ρ : Env') (σ : L2.St) (F : Fz) (H : Hp) (Qd : List D → Prop) (E : EQ) (Q : VK), Rl X.K ρ σ F H → XP X.K W σ F H E →
    (∀ ds p vs F' H', Go F H F' H' → H p = none → H' p = some (.lst vs) → F' p = none → vs.length ≤ sizeLine → Reps X.K F' ds vs → Qd ds → Q (.ref p) H') → t ρ Qd E → te σ H Q
def dFz (t : TDs) : TD := fun ρ Q E => t ρ (fun ds => Q (.lst ds)) E
theorem Go.freeze {F : Fz} {H : Hp} {F' : Fz} {H' : Hp} {p : Addr} {vs : List V} (g : Go F H F' H') (np : H p = none) (hp : H' p = some (.lst vs)) (fp : F' p = none) : Go F H (F'.upd p (.lst vs)) H' := by
  refine ⟨g.ff.trans (same_updF fp), g.hh, fun b u e => ?_, fun q h1 h2 => ?_⟩
  · rw [Fz.upd_h] at e
    by_cases z : b = p
    · subst z; rw [upd_same] at e; cases e; exact hp
    · rw [upd_ne z] at e; exact g.fh _ _ e
  · rw [Fz.upd_h, upd_ne (fun z => by rw [z] at h2; exact h2 np)]; exact g.nn q h1 h2
theorem RN.e {X : Cx} {W : WX} {e : Expr} {t : TDs} (h : RN X W e t) : RE X W e (dFz t) := by
  obtain ⟨te, h1, h2⟩ := h.run
  refine ⟨te, h1, fun ρ σ F H Qd E Q rl xp kk q => h2 ρ σ F H _ E _ rl xp (fun ds p vs F' H' g np hp fp z r q1 => ?_) q⟩
  exact kk _ _ _ H' (g.freeze np hp fp) (.lst upd_same (F'.upd_p p _) z (r.mono (same_updF fp))) q1
section
variable {X : Cx} {W : WX}
theorem go_acc {F1 : Fz} {H1 : Hp} {F : Fz} {H : Hp} {p : Addr} {vs ws : List V} (g : Go F1 H1 F H) (n1 : H1 p = none) (hp : H p = some (.lst vs)) (fp : F p = none) : Go F1 H1 F (upd H p (.lst ws)) := by
  refine ⟨g.ff, fun b u e => ?_, fun b u e => ?_, g.nn⟩
  · rw [upd_ne (ne_of_none e n1)]; exact g.hh _ _ e
  · rw [upd_ne (ne_of_none e fp)]; exact g.fh _ _ e
def dLcN (ti : TDs) (g : DG) (tt : TDb) (te : TD) (vs : List Nat) : TDs := fun ρ Q E => ti ρ (fun ds => compL g tt te (wipeD ρ vs) Q ds []) E
theorem lc_run {K : PySem.W.Frag} {wi : TI} {ti : TDs} {g : DG} {js : List Nat} {tt : TDb} {te : TD} {vs : List Nat} (hjs : ∀ i ∈ js, i ∈ vs)
    (hi : ∀ (ρ : Env') (σ : L2.St) (F : Fz) (H : Hp) (Qd : List D → Prop) (E : EQ) (R : It → Hp → Prop), Rl K ρ σ F H → XP K W σ F H E → (∀ ds J F' H', Go F H F' H' → JW K F' J ds → ds.length ≤ sizeLine → Qd ds → R J H') → ti ρ Qd E → wi σ H R)
    {ρ : Env'} {σ : L2.St} {F : Fz} {H : Hp} {Qd : List D → Prop} {E : EQ} {Q : VK} (rl : Rl K ρ σ F H) (xp : XP K W σ F H E)
    (kk : ∀ ds p vs F' H', Go F H F' H' → H p = none → H' p = some (.lst vs) → F' p = none → vs.length ≤ sizeLine → Reps K F' ds vs → Qd ds → Q (.ref p) H') (q : dLcN ti g tt te vs ρ Qd E) :
    tLc wi (liftG K js g) (liftT K W0 tt) (liftE K W0 te) vs σ H Q := by
  refine hi ρ σ F H _ E _ rl xp (fun ds J F1 H1 g1 jw zl q1 => ?_) q
  intro P nP
  obtain ⟨G, Y, w, hG, hY⟩ := jw.go
  have fP : F1 P = none := g1.fh.free nP
  let Inv : Nat → Hp → Prop := fun i H' => ∃ (F' : Fz) (acc : List D) (av : List V), Go F1 H1 F' H' ∧ H' P = some (.lst av) ∧ F' P = none ∧ Reps K F' acc av ∧ av.length ≤ i ∧ compR g tt te (wipeD ρ vs) Qd (ds.drop i) acc
  refine lc_it w Inv ⟨F1, [], [], ⟨SameF.refl _, same_upd nP, g1.fh.trans (same_upd nP), fun p h _ => h⟩, upd_same, fP, .nil, Nat.zero_le _, by rw [List.drop_zero]; exact q1.out⟩ ?_ ?_ ?_
  · rintro i H' _ ⟨F', acc, av, g2, _⟩
    exact hG F' H' g2.ff g2.fh
  · rintro i x H' H'' hlt ⟨F', acc, av, g2, hP, fP', ra, la, cq⟩ y
    obtain ⟨F2, d, hd, g3, rd⟩ := hY i F' H' x H'' hlt g2.ff g2.fh y
    rw [List.drop_eq_getElem_cons hlt] at cq
    have hd' : ds[i] = d := by
      rw [List.getElem?_eq_getElem hlt] at hd
      exact Option.some.inj hd
    rw [hd'] at cq
    have rw0 : Rl K (wipeD ρ vs) (L2.wipe σ vs) F2 H'' := (((rl.wipe vs).go g1).go g2).go g3
    have hP2 : H'' P = some (.lst av) := g3.hh _ _ hP
    have fP2 : F2 P = none := g3.nn P fP' (by rw [hP]; exact fun z => nomatch z)
    have g4 := g2.trans g3
    refine ⟨wipeD ρ vs, F2, d, _, rw0.len, g3.fh, rd, fun ρ' σ' us e1 e2 hu q2 => ?_, cq⟩
    have rl2 : Rl K ρ' σ' F2 H'' := by rw [e1, e2]; exact rw0.sets us fun u hu' => (hu u hu').2
    refine ⟨by rw [e2, wipe_fold us _ fun u hu' => hjs _ (hu u hu').1, wipe_wipe], ρ', F2, _, _, rl2, xp0, fun b F3 H3 g5 q3 => ?_, q2⟩
    have g6 := g4.trans g5
    have hP3 : H3 P = some (.lst av) := g5.hh _ _ hP2
    have fP3 : F3 P = none := g5.nn P fP2 (by rw [hP2]; exact fun z => nomatch z)
    cases b with
    | false =>
      rw [ifP_f] at q3
      refine iteF ?_
      exact ⟨F3, acc, av, g6, hP3, fP3, (ra.mono g3.ff).mono g5.ff, Nat.le_succ_of_le la, q3⟩
    | true =>
      rw [ifP_t] at q3
      refine iteT ?_
      refine ⟨ρ', F3, _, _, rl2.go g5, xp0, fun yd yv F4 H4 g7 ry q4 => ?_, q3⟩
      have hP4 : H4 P = some (.lst av) := g7.hh _ _ hP3
      have fP4 : F4 P = none := g7.nn P fP3 (by rw [hP3]; exact fun z => nomatch z)
      refine ⟨av, hP4, by omega, F4, acc ++ [yd], av ++ [yv], go_acc (g6.trans g7) nP hP4 fP4, upd_same, fP4, (((ra.mono g3.ff).mono g5.ff).mono g7.ff).append (.cons ry .nil), by rw [List.length_append, List.length_singleton]; omega, q4⟩
  · rintro H' ⟨F', acc, av, g2, hP, fP', ra, la, cq⟩
    rw [List.drop_length] at cq
    exact kk acc P av F' H' (g1.trans g2) (g1.hh.free nP) hP fP' (by omega) ra cq
theorem rn_lc {elt tg iter : Expr} {ifs : List Expr} {scope : Scope} {own : List (Str × Nat)} {pos : Pos} {ti : TDs} {g : DG} {js : List Nat} {tt : TDb} {te : TD} (hN : X.N.Nodup) (hi : RI X W tg iter ti) (ok : BlkOk X.N X.env.scope scope own)
    (hg : ∀ (s : Shared) (H : Hp) (C : Addr) (cl : List (Str × Addr)) (fp : List Addr), RG (X.blk s H scope (compEnvC scope cl C X.env) fp) tg js g)
    (ht : ∀ (s : Shared) (H : Hp) (C : Addr) (cl : List (Str × Addr)) (fp : List Addr), RTs (X.blk s H scope (compEnvC scope cl C X.env) fp) W0 ifs tt)
    (he : ∀ (s : Shared) (H : Hp) (C : Addr) (cl : List (Str × Addr)) (fp : List Addr), RE (X.blk s H scope (compEnvC scope cl C X.env) fp) W0 elt te)
    {vs : List Nat} (hv : own.map (·.2) = vs := by rfl) (hjs : ∀ i ∈ js, i ∈ vs := by decide) (hc : X.calm = true := by rfl) (hs : ∀ x, foldedSetIterable iter X.env x = pure x := by intro _; rfl) :
    RN X W (.ListComp elt [⟨tg, iter, ifs, 0⟩] scope pos) (dLcN ti g tt te vs) := by
  subst hv
  obtain ⟨wi, h1, h2⟩ := hi.run
  exact ⟨_, pe_lc hc hN h1 ok (fun s H C cl fp => (hg s H C cl fp).lift) (fun s H C cl fp => (ht s H C cl fp).lift) (fun s H C cl fp => (he s H C cl fp).lift) hs, fun ρ σ F H Qd E Q rl xp kk q => lc_run hjs h2 rl xp kk q⟩
/-! ### other new lists -/
theorem rn_lst {es : List Expr} {ts : TDs} {pos : Pos} (h : RA X W es ts) : RN X W (.List es pos) (fun ρ Q E => ts ρ (fun ds => few ds ∧ Q ds) E) := by
  obtain ⟨te, h1, h2⟩ := h.run
  refine ⟨_, pe_lst h1, fun ρ σ F H Qd E Q rl xp kk q => h2 ρ σ F H _ E _ rl xp (fun ds vs F1 H1 g1 r1 q1 => ⟨few_line r1 q1.1, fun p np => ?_⟩) q⟩
  have g := g1.trans (F2 := F1) (H2 := upd H1 p (.lst vs)) ⟨SameF.refl _, same_upd np, g1.fh.trans (same_upd np), fun _ h _ => h⟩
  exact kk ds p vs F1 _ g (g1.hh.free np) upd_same (g1.fh.free np) (few_line r1 q1.1) r1 q1.2
theorem go_new {F : Fz} {H : Hp} {p : Addr} {o : HO} (e : Same F H) (np : H p = none) : Go F H F (upd H p o) := ⟨SameF.refl _, same_upd np, e.trans (same_upd np), fun _ h _ => h⟩
/-- list(x) -/
def kListN : D → (List D → Prop) → Prop := fun d Q => match d with
  | .lst ds => Q ds
  | .frl ds => Q ds
  | .tup ds => Q ds
  | .mu ds => Q ds
  | _ => False
theorem rn_list {x : Str} {p pos : Pos} {e : Expr} {t : TD} (hm : X.mg x = none) (h : RP X W e t) (hg : Gl X x := by rfl) (hv : bootBuiltins x = some (.type "list") := by decide +kernel)
    (hn : x ≠ "__name__" := by decide) (hdb : (x == ("__debug__" : Str)) = false := by decide)
    (he : starEach [e] X.env = (false, eval e X.env) :: starEach [] X.env := by rfl) (hpl : (backTo pos (starEach [] X.env)).any (·.1) = false := by rfl) : RN X W (.Call (.Name x p) [e] [] pos) (fun ρ Q E => t ρ (fun d => kListN d Q) E) := by
  obtain ⟨te, h1, h2⟩ := h.run
  refine ⟨_, pe_callTy call_list_of hg hm hv (pa_cons h1 pa_nil he) hn hdb he hpl, fun ρ σ F H Qd E Q rl xp kk q => h2 ρ σ F H _ E _ rl xp (fun d v F1 H1 g1 pk q1 => ?_) q⟩
  cases d <;> first | exact False.elim q1 | skip
  · obtain ⟨p, ws, rfl, h1, l1, r1⟩ := pk.tup g1.fh
    exact ⟨p, ws, rfl, .inr h1, fun l nl => kk _ l _ F1 _ (g1.trans (go_new g1.fh nl)) (g1.hh.free nl) upd_same (g1.fh.free nl) l1 r1 q1⟩
  · obtain ⟨p, ws, rfl, h1, l1, r1⟩ := pk.lst g1.fh
    exact ⟨p, ws, rfl, .inl (SqL.of h1), fun l nl => kk _ l _ F1 _ (g1.trans (go_new g1.fh nl)) (g1.hh.free nl) upd_same (g1.fh.free nl) l1 r1 q1⟩
  · obtain ⟨p, ws, rfl, h1, l1, r1⟩ := pk.frl g1.fh
    exact ⟨p, ws, rfl, .inl h1, fun l nl => kk _ l _ F1 _ (g1.trans (go_new g1.fh nl)) (g1.hh.free nl) upd_same (g1.fh.free nl) l1 r1 q1⟩
  · obtain ⟨p, ws, rfl, h1, l1, r1⟩ := pk.mu g1.fh
    exact ⟨p, ws, rfl, .inl (SqL.of h1), fun l nl => kk _ l _ F1 _ (g1.trans (go_new g1.fh nl)) (g1.hh.free nl) upd_same (g1.fh.free nl) l1 r1 q1⟩
end
end Dl

/-! The D-layer, part 8: statements, defs. -/
namespace Dl
open PySem PySem.Spec
open PyProof.Rows L2
/-- what is wanted behind a statement, by trees -/
structure DE where
  nx : Env' → Prop
  rt : EQ
  bk : Env' → Prop
  ct : Env' → Prop
  ex : Env' → EQ
  rt1 : List D → Prop
  rt2 : List D → List D → Prop
/-- a new list, known to nobody else -/
def OwL (K : PySem.W.Frag) (F : Fz) (H H0 : Hp) (ds : List D) (p : Addr) : Prop := H0 p = none ∧ F p = none ∧ ∃ vs, H p = some (.lst vs) ∧ vs.length ≤ sizeLine ∧ Reps K F ds vs
abbrev DS := DE → Env' → Prop
structure Cnt (K : PySem.W.Frag) (W : WX) (F0 : Fz) (H0 : Hp) (d : DE) (D : Ends) : Prop where
  nx : ∀ ρ σ F H, Ent K F0 H0 ρ σ F H → d.nx ρ → D.nx σ H
  rt : ∀ x v F H, Go F0 H0 F H → Rep K F x v → d.rt x → D.rt v H
  bk : ∀ ρ σ F H, Ent K F0 H0 ρ σ F H → d.bk ρ → D.bk σ H
  ct : ∀ ρ σ F H, Ent K F0 H0 ρ σ F H → d.ct ρ → D.ct σ H
  ex : ∀ ρ σ F H, Ent K F0 H0 ρ σ F H → XP K W σ F H (d.ex ρ)
  rt1 : ∀ ds p F H, Go F0 H0 F H → OwL K F H H0 ds p → d.rt1 ds → D.rt (.ref p) H
  rt2 : ∀ ds es t p q F H, Go F0 H0 F H → H t = some (.tup [.ref p, .ref q]) → p ≠ q → OwL K F H H0 ds p → OwL K F H H0 es q → d.rt2 ds es → D.rt (.ref t) H
/-- a later ground -/
theorem Ent.base {K : PySem.W.Frag} {F0 : Fz} {H0 : Hp} {F1 : Fz} {H1 : Hp} {ρ : Env'} {σ : L2.St} {F : Fz} {H : Hp} (g : Go F0 H0 F1 H1) (e : Ent K F1 H0 ρ σ F H) : Ent K F0 H0 ρ σ F H :=
  ⟨e.rl, ⟨g.ff.trans e.go.ff, e.go.hh, e.go.fh, fun p h1 h2 => e.go.nn p (g.nn p h1 h2) h2⟩, e.new⟩
theorem Ent.here {K : PySem.W.Frag} {F0 : Fz} {H0 : Hp} {ρ : Env'} {σ : L2.St} {F : Fz} {H : Hp} (e : Ent K F0 H0 ρ σ F H) : Ent K F H0 ρ σ F H :=
  ⟨e.rl, ⟨SameF.refl _, e.go.hh, e.go.fh, fun _ h _ => h⟩, e.new⟩
theorem Cnt.base {K : PySem.W.Frag} {W : WX} {F0 : Fz} {H0 : Hp} {F1 : Fz} {H1 : Hp} {d : DE} {D : Ends} (g : Go F0 H0 F1 H1) (c : Cnt K W F0 H0 d D) : Cnt K W F1 H0 d D :=
  ⟨fun ρ σ F H e q => c.nx ρ σ F H (e.base g) q, fun x v F H g' r q => c.rt x v F H ⟨g.ff.trans g'.ff, g'.hh, g'.fh, fun p h1 h2 => g'.nn p (g.nn p h1 h2) h2⟩ r q, fun ρ σ F H e q => c.bk ρ σ F H (e.base g) q, fun ρ σ F H e q => c.ct ρ σ F H (e.base g) q, fun ρ σ F H e => c.ex ρ σ F H (e.base g), fun ds p F H g' => c.rt1 ds p F H ⟨g.ff.trans g'.ff, g'.hh, g'.fh, fun p h1 h2 => g'.nn p (g.nn p h1 h2) h2⟩, fun ds es t p q F H g' => c.rt2 ds es t p q F H ⟨g.ff.trans g'.ff, g'.hh, g'.fh, fun p h1 h2 => g'.nn p (g.nn p h1 h2) h2⟩⟩
structure RS (X : Cx) (W : WX) (st : Stmt) (t : DS) : Prop where
  run : ∃ ts, PS X st ts ∧ ∀ (F0 : Fz) (H0 : Hp) (ρ : Env') (σ : L2.St) (F : Fz) (H : Hp) (D : Ends) (d : DE), Ent X.K F0 H0 ρ σ F H → Cnt X.K W F0 H0 d D → t d ρ → ts D σ H
structure RSs (X : Cx) (W : WX) (st : List Stmt) (t : DS) : Prop where
  run : ∃ ts, PSs X st ts ∧ ∀ (F0 : Fz) (H0 : Hp) (ρ : Env') (σ : L2.St) (F : Fz) (H : Hp) (D : Ends) (d : DE), Ent X.K F0 H0 ρ σ F H → Cnt X.K W F0 H0 d D → t d ρ → ts D σ H
section
variable {X : Cx} {W : WX} {st : Stmt} {rest : List Stmt} {e a b c : Expr} {es : List Expr} {t ta tb tc : TD} {ts u v : DS} {pos : Pos}
/-! ### blocks -/
def dNext : DS := fun d ρ => d.nx ρ
def dSq (t u : DS) : DS := fun d ρ => t { d with nx := u d } ρ
theorem rss_nil : RSs X W [] dNext := ⟨_, pss_nil, fun F0 H0 ρ σ F H D d e c q => c.nx ρ σ F H e q⟩
theorem rss_cons (h : RS X W st u) (hr : RSs X W rest v) : RSs X W (st :: rest) (dSq u v) := by
  obtain ⟨t1, h1, h2⟩ := h.run
  obtain ⟨t2, a1, a2⟩ := hr.run
  refine ⟨_, pss_cons h1 a1, fun F0 H0 ρ σ F H D d e c q => h2 F0 H0 ρ σ F H _ { d with nx := v d } e ⟨fun ρ σ F H e q => a2 F0 H0 ρ σ F H D d e c q, c.rt, c.bk, c.ct, c.ex, c.rt1, c.rt2⟩ q⟩
theorem rss_one (h : RS X W st u) : RSs X W [st] u := by
  obtain ⟨t1, h1, h2⟩ := h.run
  exact ⟨_, pss_one h1, h2⟩
def dRet (t : TD) : DS := fun d ρ => t ρ d.rt (d.ex ρ)
theorem rs_ret (h : RE X W e t) : RS X W (.Return (some e) pos) (dRet t) := by
  obtain ⟨te, h1, h2⟩ := h.run
  exact ⟨_, ps_ret h1, fun F0 H0 ρ σ F H D d e c q => h2 ρ σ F H _ _ _ e.rl (c.ex ρ σ F H e) (fun x v F1 H1 g r q => c.rt x v F1 H1 (e.go.trans g) r q) q⟩
def dIf (t : TDb) (u v : DS) : DS := fun d ρ => t ρ (fun b => ifP b (u d ρ) (v d ρ)) (d.ex ρ)
theorem rs_if {tb : TDb} {xs ys : List Stmt} (h : RT X W e tb) (ha : RSs X W xs u) (hb : RSs X W ys v) : RS X W (.If e xs ys pos) (dIf tb u v) := by
  obtain ⟨te, h1, h2⟩ := h.run
  obtain ⟨t1, a1, a2⟩ := ha.run
  obtain ⟨t2, b1, b2⟩ := hb.run
  refine ⟨_, ps_if h1 a1 b1, fun F0 H0 ρ σ F H D d e c q => h2 ρ σ F H _ _ _ e.rl (c.ex ρ σ F H e) (fun k F1 H1 g q => ?_) q⟩
  cases k with
  | true => exact a2 F0 H0 ρ σ F1 H1 D d (e.step g) c q
  | false => exact b2 F0 H0 ρ σ F1 H1 D d (e.step g) c q
/-! ### stores -/
theorem Ent.set {K : PySem.W.Frag} {F0 : Fz} {H0 : Hp} {ρ : Env'} {σ : L2.St} {F : Fz} {H : Hp} (e : Ent K F0 H0 ρ σ F H) (i : Nat) {d : D} {v : V} (r : Rep K F d v) : Ent K F0 H0 (ρ.set i (.sh d)) (σ.set i (some v)) F H := by
  refine ⟨e.rl.set i r, e.go, fun j s p h o hs => ?_⟩
  by_cases hj : i = j
  · subst hj
    by_cases hl : i < ρ.length
    · rw [List.getElem?_set_self hl] at h; cases h; cases o
    · rw [List.getElem?_eq_none (by rw [List.length_set]; omega)] at h; cases h
  · rw [List.getElem?_set_ne hj] at h hs
    exact e.new j s p h o hs
theorem Ent.sets {K : PySem.W.Frag} {F0 : Fz} {H0 : Hp} {F : Fz} {H : Hp} : ∀ (us : List (Nat × D × V)) {ρ : Env'} {σ : L2.St}, Ent K F0 H0 ρ σ F H → (∀ u ∈ us, Rep K F u.2.1 u.2.2) → Ent K F0 H0 (us.foldl (fun r u => r.set u.1 (.sh u.2.1)) ρ) (us.foldl (fun s u => s.set u.1 (some u.2.2)) σ) F H
  | [], _, _, r, _ => r
  | u :: us, _, _, r, h => Ent.sets us (r.set u.1 (h u List.mem_cons_self)) fun v hv => h v (List.mem_cons_of_mem _ hv)
def dSet (i : Nat) (t : TD) : DS := fun d ρ => t ρ (fun x => d.nx (ρ.set i (.sh x))) (d.ex ρ)
theorem rs_set (i : Nat) {x : Str} {pos' : Pos} (hN : X.N.Nodup) (h : RE X W e t) (hi : X.N[i]? = some x := by rfl) (hx : Loc X.env.scope x := by first | exact Or.inl rfl | exact Or.inr rfl) (hs : swapsWith e (some (.Name x pos')) pos.line X.env = pure false := by rfl) (hf : X.fn x = true ∨ X.env.scope.names.lookup x = some .local := by first | exact .inl rfl | exact .inr rfl) :
    RS X W (.Assign [.Name x pos'] e pos) (dSet i t) := by
  obtain ⟨te, h1, h2⟩ := h.run
  exact ⟨_, ps_set hN hi hx h1 hs hf, fun F0 H0 ρ σ F H D d e c q => h2 ρ σ F H _ _ _ e.rl (c.ex ρ σ F H e) (fun x v F1 H1 g r q => c.nx _ _ F1 H1 ((e.step g).set i r) q) q⟩
/-- a list of one's own at a name -/
theorem Ent.setOw {K : PySem.W.Frag} {F0 : Fz} {H0 : Hp} {ρ : Env'} {σ : L2.St} {F : Fz} {H : Hp} {F1 : Fz} {H1 : Hp} (e : Ent K F0 H0 ρ σ F H) (g : Go F H F1 H1) (i : Nat) {ds : List D} {p : Addr} {vs : List V} (np : H p = none) (hp : H1 p = some (.lst vs)) (fp : F1 p = none) (z : vs.length ≤ sizeLine) (r : Reps K F1 ds vs) :
    Ent K F0 H0 (ρ.set i (.ow ds)) (σ.set i (some (.ref p))) F1 H1 := by
  have e1 := e.step g
  have lt : ∀ {s : Sl}, (ρ.set i (.ow ds))[i]? = some s → i < ρ.length := fun h => by
    have z := (List.getElem?_eq_some_iff.mp h).1
    rw [List.length_set] at z; exact z
  have at_i : ∀ {s : Sl}, (ρ.set i (.ow ds))[i]? = some s → s = .ow ds ∧ (σ.set i (some (.ref p)))[i]? = some (some (.ref p)) := fun h => by
    have l := lt h
    rw [List.getElem?_set_self l] at h
    exact ⟨(Option.some.inj h).symm, List.getElem?_set_self (by rw [← e.rl.len]; exact l)⟩
  have ne : ∀ {j : Nat}, i ≠ j → (ρ.set i (.ow ds))[j]? = ρ[j]? ∧ (σ.set i (some (.ref p)))[j]? = σ[j]? := fun h => ⟨List.getElem?_set_ne h, List.getElem?_set_ne h⟩
  have old : ∀ {j : Nat} {s : Sl} {q : Addr}, ρ[j]? = some s → s.own = true → σ[j]? = some (some (.ref q)) → q ≠ p := fun {j s q} h o hs z => by
    subst z
    cases s with
    | no => cases o
    | sh d => cases o
    | ow es =>
      obtain ⟨p', _, h1, h2, _⟩ := e.rl.ow j es h
      rw [h1] at hs; cases hs; rw [np] at h2; cases h2
    | oi C fs =>
      obtain ⟨p', _, _, h1, h2, _⟩ := e.rl.oi j C fs h
      rw [h1] at hs; cases hs; rw [np] at h2; cases h2
    | od kvs =>
      obtain ⟨p', _, h1, h2, _⟩ := e.rl.od j kvs h
      rw [h1] at hs; cases hs; rw [np] at h2; cases h2
  refine ⟨⟨by rw [List.length_set, List.length_set]; exact e.rl.len, e1.rl.fh, fun j d h => ?_, fun j es h => ?_, fun j C fs h => ?_, fun j kvs h => ?_, fun j k s s' w h1 o1 h2 o2 h3 h4 => ?_⟩, e1.go, fun j s q h o hs => ?_⟩
  · by_cases hj : i = j
    · subst hj; cases (at_i h).1
    · rw [(ne hj).1] at h; rw [(ne hj).2]; exact e1.rl.sh j d h
  · by_cases hj : i = j
    · subst hj
      obtain ⟨q1, q2⟩ := at_i h
      cases q1
      exact ⟨p, vs, q2, hp, fp, z, r⟩
    · rw [(ne hj).1] at h; rw [(ne hj).2]; exact e1.rl.ow j es h
  · by_cases hj : i = j
    · subst hj; cases (at_i h).1
    · rw [(ne hj).1] at h; rw [(ne hj).2]; exact e1.rl.oi j C fs h
  · by_cases hj : i = j
    · subst hj; cases (at_i h).1
    · rw [(ne hj).1] at h; rw [(ne hj).2]; exact e1.rl.od j kvs h
  · by_cases hj : i = j
    · by_cases hk : i = k
      · rw [← hj, hk]
      · subst hj
        rw [(at_i h1).2] at h3; cases h3
        rw [(ne hk).1] at h2; rw [(ne hk).2] at h4
        exact absurd rfl (old h2 o2 h4)
    · by_cases hk : i = k
      · subst hk
        rw [(at_i h2).2] at h4; cases h4
        rw [(ne hj).1] at h1; rw [(ne hj).2] at h3
        exact absurd rfl (old h1 o1 h3)
      · rw [(ne hj).1] at h1; rw [(ne hj).2] at h3; rw [(ne hk).1] at h2; rw [(ne hk).2] at h4
        exact e.rl.inj j k s s' w h1 o1 h2 o2 h3 h4
  · by_cases hj : i = j
    · subst hj
      rw [(at_i h).2] at hs; cases hs
      exact e.go.hh.free np
    · rw [(ne hj).1] at h; rw [(ne hj).2] at hs; exact e.new j s q h o hs
def dOwn (i : Nat) (t : TDs) : DS := fun d ρ => t ρ (fun x => d.nx (ρ.set i (.ow x))) (d.ex ρ)
theorem rs_own (i : Nat) {x : Str} {pos' : Pos} {tn : TDs} (hN : X.N.Nodup) (h : RN X W e tn) (hi : X.N[i]? = some x := by rfl) (hx : Loc X.env.scope x := by first | exact Or.inl rfl | exact Or.inr rfl) (hs : swapsWith e (some (.Name x pos')) pos.line X.env = pure false := by rfl) (hf : X.fn x = true ∨ X.env.scope.names.lookup x = some .local := by first | exact .inl rfl | exact .inr rfl) :
    RS X W (.Assign [.Name x pos'] e pos) (dOwn i tn) := by
  obtain ⟨te, h1, h2⟩ := h.run
  exact ⟨_, ps_set hN hi hx h1 hs hf, fun F0 H0 ρ σ F H D d e c q => h2 ρ σ F H _ _ _ e.rl (c.ex ρ σ F H e) (fun ds p vs F1 H1 g np hp fp z r q => c.nx _ _ F1 H1 (e.setOw g i np hp fp z r) q) q⟩
theorem rs_setLc (i : Nat) {y : Str} {py : Pos} {elt tg iter : Expr} {ifs : List Expr} {scope : Scope} {own : List (Str × Nat)} {pos' spos : Pos} {ti : TDs} {g : DG} {js : List Nat} {tt : TDb} {te : TD} (hN : X.N.Nodup) (hi : RI X W tg iter ti) (ok : BlkOk X.N X.env.scope scope own)
    (hg : ∀ (s : Shared) (H : Hp) (C : Addr) (cl : List (Str × Addr)) (fp : List Addr), RG (X.blk s H scope (compEnvC scope cl C X.env) fp) tg js g)
    (ht : ∀ (s : Shared) (H : Hp) (C : Addr) (cl : List (Str × Addr)) (fp : List Addr), RTs (X.blk s H scope (compEnvC scope cl C X.env) fp) W0 ifs tt)
    (he : ∀ (s : Shared) (H : Hp) (C : Addr) (cl : List (Str × Addr)) (fp : List Addr), RE (X.blk s H scope (compEnvC scope cl C X.env) fp) W0 elt te)
    (hsw : swapsWith (.ListComp elt [⟨tg, iter, ifs, 0⟩] scope pos') (some (.Name y py)) spos.line X.env = pure true)
    (hy : X.N[i]? = some y := by rfl) (hyl : X.env.scope.names.lookup y = some .local := by rfl)
    {vs : List Nat} (hv : own.map (·.2) = vs := by rfl) (hjs : ∀ i ∈ js, i ∈ vs := by decide) (hc : X.calm = true := by rfl) (hs : ∀ x, foldedSetIterable iter X.env x = pure x := by intro _; rfl) :
    RS X W (.Assign [.Name y py] (.ListComp elt [⟨tg, iter, ifs, 0⟩] scope pos') spos) (dSet i (dLc ti g tt te vs)) := by
  subst hv
  obtain ⟨wi, h1, h2⟩ := hi.run
  refine ⟨_, ps_setLc (g := liftG X.K js g) (tt := liftT X.K W0 tt) (te := liftE X.K W0 te) hc hN hy hyl hsw h1 ok (fun s H C cl fp => (hg s H C cl fp).lift) (fun s H C cl fp => (ht s H C cl fp).lift) (fun s H C cl fp => (he s H C cl fp).lift) hs, fun F0 H0 ρ σ F H D d e c q => ?_⟩
  exact lc_run (Q := fun x H1 => gName i x σ H1 D.nx) hjs h2 e.rl (c.ex ρ σ F H e) (fun ds p vs F1 H1 g np hp fp z r q => c.nx _ _ _ H1 ((e.step (g.freeze np hp fp)).set i (.lst upd_same (Fz.upd_p _ _ _) z (r.mono (same_updF fp)))) q) q
/-- a list of one's own is changed -/
theorem Ent.putOw {K : PySem.W.Frag} {F0 : Fz} {H0 : Hp} {ρ : Env'} {σ : L2.St} {F : Fz} {H : Hp} (e : Ent K F0 H0 ρ σ F H) {i : Nat} {ds es : List D} {p : Addr} {ws : List V} (hi : ρ[i]? = some (.ow ds)) (hs : σ[i]? = some (some (.ref p))) (z : ws.length ≤ sizeLine) (r : Reps K F es ws) :
    Ent K F0 H0 (ρ.set i (.ow es)) σ F (upd H p (.lst ws)) := by
  obtain ⟨p', vs, h1, h2, h3, h4, h5⟩ := e.rl.ow i ds hi
  rw [hs] at h1; cases h1
  have h0 := e.new i _ p hi rfl hs
  have il := (List.getElem?_eq_some_iff.mp hi).1
  have at_i : ∀ {s : Sl}, (ρ.set i (.ow es))[i]? = some s → s = .ow es := fun h => by
    rw [List.getElem?_set_self il] at h; exact (Option.some.inj h).symm
  have ne : ∀ {j : Nat}, i ≠ j → (ρ.set i (.ow es))[j]? = ρ[j]? := fun h => List.getElem?_set_ne h
  have np : ∀ {j : Nat} {s : Sl} {q : Addr}, i ≠ j → ρ[j]? = some s → s.own = true → σ[j]? = some (some (.ref q)) → q ≠ p := fun {j s q} hj h o hq z => by
    subst z
    exact hj (e.rl.inj i j _ s _ hi rfl h o hs hq)
  have sm : ∀ {A : Hp}, A p = none → Same A H → Same A (upd H p (.lst ws)) := fun n s b u q => by
    rw [upd_ne (ne_of_none q n)]; exact s b u q
  refine ⟨⟨by rw [List.length_set]; exact e.rl.len, sm h3 e.rl.fh, fun j d h => ?_, fun j fs h => ?_, fun j C fs h => ?_, fun j kvs h => ?_, fun j k s s' w g1 o1 g2 o2 g3 g4 => ?_⟩, ⟨e.go.ff, sm h0 e.go.hh, sm h3 e.rl.fh, e.go.nn⟩, fun j s q h o hq => ?_⟩
  · by_cases hj : i = j
    · subst hj; cases at_i h
    · rw [ne hj] at h; exact e.rl.sh j d h
  · by_cases hj : i = j
    · subst hj
      cases at_i h
      exact ⟨p, ws, hs, upd_same, h3, z, r⟩
    · rw [ne hj] at h
      obtain ⟨q, us, g1, g2, g3⟩ := e.rl.ow j fs h
      exact ⟨q, us, g1, by rw [upd_ne (np hj h rfl g1)]; exact g2, g3⟩
  · by_cases hj : i = j
    · subst hj; cases at_i h
    · rw [ne hj] at h
      obtain ⟨q, dx, us, g1, g2, g3⟩ := e.rl.oi j C fs h
      exact ⟨q, dx, us, g1, by rw [upd_ne (np hj h rfl g1)]; exact g2, g3⟩
  · by_cases hj : i = j
    · subst hj; cases at_i h
    · rw [ne hj] at h
      obtain ⟨q, us, g1, g2, g3⟩ := e.rl.od j kvs h
      exact ⟨q, us, g1, by rw [upd_ne (np hj h rfl g1)]; exact g2, g3⟩
  · have low : ∀ {j : Nat} {s : Sl}, (ρ.set i (.ow es))[j]? = some s → s.own = true → ∃ s', ρ[j]? = some s' ∧ s'.own = true := fun {j s} h o => by
      by_cases hj : i = j
      · subst hj; exact ⟨_, hi, rfl⟩
      · rw [ne hj] at h; exact ⟨s, h, o⟩
    obtain ⟨s1, q1, q2⟩ := low g1 o1
    obtain ⟨s2, q3, q4⟩ := low g2 o2
    exact e.rl.inj j k s1 s2 w q1 q2 q3 q4 g3 g4
  · by_cases hj : i = j
    · subst hj; rw [hs] at hq; cases hq; exact h0
    · rw [ne hj] at h; exact e.new j s q h o hq
/-- where a list of one's own is wanted -/
def owAt (ρ : Env') (i : Nat) (Q : List D → Prop) : Prop := match ρ[i]? with
  | some (.ow ds) => Q ds
  | _ => False
theorem owAt_inv {ρ : Env'} {i : Nat} {Q : List D → Prop} (h : owAt ρ i Q) : ∃ ds, ρ[i]? = some (.ow ds) ∧ Q ds := by
  unfold owAt at h
  split at h
  · exact ⟨_, by assumption, h⟩
  · exact h.elim
/-- x.append(e), x a list of one's own -/
def dApp (i : Nat) (t : TD) : DS := fun d ρ => owAt ρ i fun ds => t ρ (fun y => few (ds ++ [y]) ∧ d.nx (ρ.set i (.ow (ds ++ [y])))) (d.ex ρ)
theorem rs_app (i : Nat) {x : Str} {p1 apos cpos : Pos} (h : RE X W e t) (hN : X.N[i]? = some x := by rfl) (hv : Vis X.env.scope x := by first | exact Or.inl rfl | exact Or.inr (Or.inl rfl) | exact Or.inr (Or.inr rfl))
    (hd : (x == ("__debug__" : Str)) = false := by decide) (hcd : (x == ("__classdict__" : Str)) = false := by decide)
    (hbase : attributeBase (.Name x p1) "append" X.env (eval (.Name x p1) X.env) = eval (.Name x p1) X.env := by rfl)
    (hfew : ((backTo cpos (starEach [e] X.env)).all (fun x => !x.1) && (backToKw cpos (keywordEach [] X.env)).all (fun x => x.1.isSome)
      && decide (([e] : List Expr).length + ([] : List Keyword).length + (if ([] : List Keyword).isEmpty then 0 else 1) < 30)) = true := by rfl)
    (hline : (apos.endLine == cpos.line) = true := by rfl) (hs : starEach [e] X.env = (false, eval e X.env) :: starEach [] X.env := by rfl) (hplain : (backTo cpos (starEach [] X.env)).any (·.1) = false := by rfl)
    (hsw : swapsWith (.Call (.Attribute (.Name x p1) "append" apos) [e] [] cpos) none pos.line X.env = pure false := by rfl) :
    RS X W (.Expr (.Call (.Attribute (.Name x p1) "append" apos) [e] [] cpos) pos) (dApp i t) := by
  obtain ⟨te, h1, h2⟩ := h.run
  refine ⟨_, ps_expr (pe_bm PySem.F.plainAttrs_list PySem.F.slot_list_append PySem.F.type_list_append mt_append (pe_var hN hv hd hcd) (pa_cons h1 pa_nil hs) hbase hfew hline hs hplain) hsw, fun F0 H0 ρ σ F H D d e c q => ?_⟩
  obtain ⟨ds, ho, q⟩ := owAt_inv q
  obtain ⟨p, vs, g1, g2, g3, g4, g5⟩ := e.rl.ow i ds ho
  refine ⟨_, g1, .inl ⟨rfl, vs, SqL.of g2⟩, ?_⟩
  refine h2 ρ σ F H _ _ _ e.rl (c.ex ρ σ F H e) (fun y v F1 H1 g r q1 => ?_) q
  have e1 := e.step g
  obtain ⟨p', vs', g1', g2', g3', g4', g5'⟩ := e1.rl.ow i ds ho
  rw [g1] at g1'; cases g1'
  have zz : (vs' ++ [v]).length ≤ sizeLine := few_line (g5'.append (.cons r .nil)) q1.1
  refine ⟨p, vs', v, rfl, rfl, g2', by rw [List.length_append, List.length_singleton] at zz; omega, ?_⟩
  exact c.nx _ _ F1 _ (e1.putOw ho g1 zz (g5'.append (.cons r .nil))) q1.2
/-- a list of one's own is given out of hand -/
def dFrz (i : Nat) (u : DS) : DS := fun d ρ => match ρ[i]? with
  | some (.ow ds) => u d (ρ.set i (.sh (.lst ds)))
  | _ => u d ρ
theorem rss_frz (i : Nat) {sts : List Stmt} (h : RSs X W sts u) : RSs X W sts (dFrz i u) := by
  obtain ⟨ts, h1, h2⟩ := h.run
  refine ⟨ts, h1, fun F0 H0 ρ σ F H D d en c q => ?_⟩
  unfold dFrz at q
  split at q
  · rename_i ds ho
    obtain ⟨p, vs, g1, g2, g3, g4, g5⟩ := en.rl.ow i ds ho
    have h0 := en.new i _ p ho rfl g1
    have sm : SameF F (F.upd p (.lst vs)) := same_updF g3
    have fz : Same (F.upd p (.lst vs)) H := fun b u q => by
      rw [Fz.upd_h] at q
      by_cases z : b = p
      · subst z; rw [upd_same] at q; cases q; exact g2
      · rw [upd_ne z] at q; exact en.rl.fh _ _ q
    have il := (List.getElem?_eq_some_iff.mp ho).1
    have at_i : ∀ {s : Sl}, (ρ.set i (.sh (.lst ds)))[i]? = some s → s = .sh (.lst ds) := fun h => by
      rw [List.getElem?_set_self il] at h; exact (Option.some.inj h).symm
    have ne : ∀ {j : Nat}, i ≠ j → (ρ.set i (.sh (.lst ds)))[j]? = ρ[j]? := fun h => List.getElem?_set_ne h
    have np : ∀ {j : Nat} {s : Sl} {q : Addr}, i ≠ j → ρ[j]? = some s → s.own = true → σ[j]? = some (some (.ref q)) → q ≠ p := fun {j s q} hj h o hq z => by
      subst z
      exact hj (en.rl.inj i j _ s _ ho rfl h o g1 hq)
    refine h2 F0 H0 _ σ (F.upd p (.lst vs)) H D d ⟨⟨by rw [List.length_set]; exact en.rl.len, fz, fun j d h => ?_, fun j fs h => ?_, fun j C fs h => ?_, fun j kvs h => ?_, fun j k s s' w q1 o1 q2 o2 q3 q4 => ?_⟩, ⟨en.go.ff.trans sm, en.go.hh, fz, fun q q1 q2 => ?_⟩, fun j s q h o hq => ?_⟩ c q
    · by_cases hj : i = j
      · subst hj
        cases at_i h
        exact ⟨_, g1, .lst upd_same (F.upd_p p _) g4 (g5.mono sm)⟩
      · rw [ne hj] at h
        obtain ⟨v, q1, q2⟩ := en.rl.sh j d h
        exact ⟨v, q1, q2.mono sm⟩
    · by_cases hj : i = j
      · subst hj; cases at_i h
      · rw [ne hj] at h
        obtain ⟨q, us, q1, q2, q3, q4, q5⟩ := en.rl.ow j fs h
        exact ⟨q, us, q1, q2, by rw [Fz.upd_h, upd_ne (np hj h rfl q1)]; exact q3, q4, q5.mono sm⟩
    · by_cases hj : i = j
      · subst hj; cases at_i h
      · rw [ne hj] at h
        obtain ⟨q, dx, us, q1, q2, q3, q5, q6⟩ := en.rl.oi j C fs h
        exact ⟨q, dx, us, q1, q2, by rw [Fz.upd_h, upd_ne (np hj h rfl q1)]; exact q3, q5.mono sm, q6⟩
    · by_cases hj : i = j
      · subst hj; cases at_i h
      · rw [ne hj] at h
        obtain ⟨q, us, q1, q2, q3, q5⟩ := en.rl.od j kvs h
        exact ⟨q, us, q1, q2, by rw [Fz.upd_h, upd_ne (np hj h rfl q1)]; exact q3, q5.mono sm⟩
    · have low : ∀ {j : Nat} {s : Sl}, (ρ.set i (.sh (.lst ds)))[j]? = some s → s.own = true → ρ[j]? = some s := fun {j s} h o => by
        by_cases hj : i = j
        · subst hj; rw [at_i h] at o; cases o
        · rw [ne hj] at h; exact h
      exact en.rl.inj j k s s' w (low q1 o1) o1 (low q2 o2) o2 q3 q4
    · have : q ≠ p := fun z => by rw [z] at q2; exact q2 h0
      rw [Fz.upd_h, upd_ne this]; exact en.go.nn q q1 q2
    · by_cases hj : i = j
      · subst hj; rw [at_i h] at o; cases o
      · rw [ne hj] at h; exact en.new j s q h o hq
  · exact h2 F0 H0 ρ σ F H D d en c q
end
end Dl

/-! The D-layer, part 9: targets, loops, raise, defs. -/
namespace Dl
open PySem PySem.Spec
open PyProof.Rows L2
section
variable {X : Cx} {W : WX} {st : Stmt} {rest : List Stmt} {e a b c tg : Expr} {es : List Expr} {t ta tb tc : TD} {ts : TDs} {u v : DS} {pos : Pos}
/-! ### (a, b) = e; a, b = x, y -/
def dAsg (t : TD) (g : DG) : DS := fun d ρ => t ρ (fun x => g x ρ d.nx) (d.ex ρ)
theorem rs_asg {js : List Nat} {g : DG} (h : RE X W e t) (hg : RG X tg js g) (hs : swapsWithSole [tg] e pos.line X.env = pure false := by rfl) (hw : swappedStores [tg] e X.env = pure none := by rfl)
    (h1 : (assignEach [tg] X.env).map (·.2) = [assign tg X.env] := by rfl) : RS X W (.Assign [tg] e pos) (dAsg t g) := by
  obtain ⟨te, e1, e2⟩ := h.run
  obtain ⟨g', g1, g2⟩ := hg.run
  refine ⟨_, ps_asg e1 g1 hs hw h1, fun F0 H0 ρ σ F H D d en c q => e2 ρ σ F H _ _ _ en.rl (c.ex ρ σ F H en) (fun x v F1 H1 g r q1 => ?_) q⟩
  refine g2 ρ σ F1 H1 x v _ _ en.rl.len g.fh r (fun ρ' σ' us e3 e4 hu q2 => ?_) q1
  rw [e4]
  rw [e3] at q2
  exact c.nx _ _ F1 H1 ((en.step g).sets us fun u hu' => (hu u hu').2) q2
/-! ### for -/
def loopR (g : DG) (tb : DS) (d : DE) : List D → Env' → Prop
  | [], ρ => d.nx ρ
  | x :: xs, ρ => g x ρ fun ρ2 => tb { d with nx := loopR g tb d xs, ct := loopR g tb d xs, bk := d.nx } ρ2
/-- the same, shut: a reading stops there -/
structure loopD (g : DG) (tb : DS) (d : DE) (xs : List D) (ρ : Env') : Prop where
  out : loopR g tb d xs ρ
theorem loopD_eq (g : DG) (tb : DS) (d : DE) (xs : List D) : loopD g tb d xs = loopR g tb d xs := funext fun _ => propext ⟨fun h => h.out, fun h => ⟨h⟩⟩
def dFor (ti : TDs) (g : DG) (tb : DS) : DS := fun d ρ => ti ρ (fun xs => loopD g tb d xs ρ) (d.ex ρ)
theorem rs_for {iter : Expr} {body : List Stmt} {js : List Nat} {ti : TDs} {g : DG} (hp : PassesOwn (model X.prog X.w) X.A X.env X.xe) (hi : RI X W tg iter ti) (hg : RG X tg js g) (hb : RSs X W body u) (hc : X.calm = true := by rfl)
    (hs : ∀ x, foldedSetIterable iter X.env x = pure x := by intro _; rfl) : RS X W (.For tg iter body [] pos) (dFor ti g u) := by
  obtain ⟨wi, i1, i2⟩ := hi.run
  obtain ⟨tg', g1, g2⟩ := hg.run
  obtain ⟨ts, b1, b2⟩ := hb.run
  refine ⟨_, ps_for hp hc i1 g1 b1 hs, fun F0 H0 ρ σ F H D d en c q => ?_⟩
  refine i2 ρ σ F H _ _ _ en.rl (c.ex ρ σ F H en) (fun xs J F1 H1 gg jw zl q1 => ?_) q
  obtain ⟨G, Y, w, hG, hY⟩ := jw.go
  have en1 := en.step gg
  have cb := c.base en1.go
  refine for_it w (fun i σ' H' => ∃ ρ' F', Ent X.K F1 H0 ρ' σ' F' H' ∧ loopR g u d (xs.drop i) ρ') ⟨ρ, F1, en1.here, by rw [List.drop_zero]; exact q1.out⟩ ?_ ?_ ?_
  · rintro i σ' H' _ ⟨ρ', F', en', _⟩
    exact hG F' H' en'.go.ff en'.rl.fh
  · rintro i x σ' H' H'' hlt ⟨ρ', F', en', q2⟩ y
    obtain ⟨F2, xd, hd, g3, rx⟩ := hY i F' H' x H'' hlt en'.go.ff en'.rl.fh y
    rw [List.drop_eq_getElem_cons hlt] at q2
    have hd' : xs[i] = xd := by
      rw [List.getElem?_eq_getElem hlt] at hd
      exact Option.some.inj hd
    rw [hd'] at q2
    have en2 := en'.step g3
    refine g2 ρ' σ' F2 H'' xd x _ _ en2.rl.len g3.fh rx (fun ρ2 σ2 us e3 e4 hu q3 => ?_) q2
    have en3 : Ent X.K F1 H0 ρ2 σ2 F2 H'' := by
      rw [e3, e4]; exact en2.sets us fun u hu' => (hu u hu').2
    refine b2 F1 H0 ρ2 σ2 F2 H'' _ { d with nx := loopR g u d (xs.drop (i + 1)), ct := loopR g u d (xs.drop (i + 1)), bk := d.nx } en3 ⟨fun ρ σ F H e q => ⟨ρ, F, e, q⟩, cb.rt, cb.nx, fun ρ σ F H e q => ⟨ρ, F, e, q⟩, cb.ex, cb.rt1, cb.rt2⟩ q3
  · rintro σ' H' ⟨ρ', F', en', q2⟩
    rw [List.drop_length] at q2
    exact cb.nx ρ' σ' F' H' en' q2
/-! ### while -/
/-! ### raise X('..'), X of one's own without __init__ -/
def dRaise (C : Addr) : DS := fun d ρ => d.ex ρ (.ins C [])
/-- what a raise asks of the text about its class -/
structure ExCls (K : PySem.W.Frag) (mg : Str → Option Value) (x : Str) (C : Addr) : Prop where
  ix : PySem.W.excIn K C [.type "ValueError", .type "Exception", .type "BaseException", .type "object"] "ValueError.__new__" = true
  gC : mg x = some (.ref C)
  kC : PySem.W.keepIn K (.ref C) = true
  bC : PySem.W.subIn K (.ref C) (.type "BaseException") = some true
  tC : PySem.W.typeIn K (.ref C) = some (.type "type")
def dNever : DS := fun _ _ => False
theorem rs_never : RS X W st dNever := ⟨_, ps_never, fun F0 H0 ρ σ F H D d en c q => False.elim q⟩
/-! ### self.f = e, self being made -/
theorem Ent.putOi {K : PySem.W.Frag} {F0 : Fz} {H0 : Hp} {ρ : Env'} {σ : L2.St} {F : Fz} {H : Hp} (e : Ent K F0 H0 ρ σ F H) {i : Nat} {C : Addr × Addr} {fs fs' : List (Str × D)} {p dx : Addr} {ws : List (Str × V)} (hi : ρ[i]? = some (.oi C fs)) (hs : σ[i]? = some (some (.ref p))) (r : RepF K F fs' ws) :
    Ent K F0 H0 (ρ.set i (.oi C fs')) σ F (upd H p (.ins C.1 dx ws)) := by
  obtain ⟨p', dx', vs, h1, h2, h3, h5, h6⟩ := e.rl.oi i C fs hi
  rw [hs] at h1; cases h1
  have h0 := e.new i _ p hi rfl hs
  have il := (List.getElem?_eq_some_iff.mp hi).1
  have at_i : ∀ {s : Sl}, (ρ.set i (.oi C fs'))[i]? = some s → s = .oi C fs' := fun h => by
    rw [List.getElem?_set_self il] at h; exact (Option.some.inj h).symm
  have ne : ∀ {j : Nat}, i ≠ j → (ρ.set i (.oi C fs'))[j]? = ρ[j]? := fun h => List.getElem?_set_ne h
  have np : ∀ {j : Nat} {s : Sl} {q : Addr}, i ≠ j → ρ[j]? = some s → s.own = true → σ[j]? = some (some (.ref q)) → q ≠ p := fun {j s q} hj h o hq z => by
    subst z
    exact hj (e.rl.inj i j _ s _ hi rfl h o hs hq)
  have sm : ∀ {A : Hp}, A p = none → Same A H → Same A (upd H p (.ins C.1 dx ws)) := fun n s b u q => by
    rw [upd_ne (ne_of_none q n)]; exact s b u q
  refine ⟨⟨by rw [List.length_set]; exact e.rl.len, sm h3 e.rl.fh, fun j d h => ?_, fun j fs h => ?_, fun j C' fs h => ?_, fun j kvs h => ?_, fun j k s s' w g1 o1 g2 o2 g3 g4 => ?_⟩, ⟨e.go.ff, sm h0 e.go.hh, sm h3 e.rl.fh, e.go.nn⟩, fun j s q h o hq => ?_⟩
  · by_cases hj : i = j
    · subst hj; cases at_i h
    · rw [ne hj] at h; exact e.rl.sh j d h
  · by_cases hj : i = j
    · subst hj; cases at_i h
    · rw [ne hj] at h
      obtain ⟨q, us, g1, g2, g3⟩ := e.rl.ow j fs h
      exact ⟨q, us, g1, by rw [upd_ne (np hj h rfl g1)]; exact g2, g3⟩
  · by_cases hj : i = j
    · subst hj
      cases at_i h
      exact ⟨p, dx, ws, hs, upd_same, h3, r, h6⟩
    · rw [ne hj] at h
      obtain ⟨q, dx, us, g1, g2, g3⟩ := e.rl.oi j C' fs h
      exact ⟨q, dx, us, g1, by rw [upd_ne (np hj h rfl g1)]; exact g2, g3⟩
  · by_cases hj : i = j
    · subst hj; cases at_i h
    · rw [ne hj] at h
      obtain ⟨q, us, g1, g2, g3⟩ := e.rl.od j kvs h
      exact ⟨q, us, g1, by rw [upd_ne (np hj h rfl g1)]; exact g2, g3⟩
  · have low : ∀ {j : Nat} {s : Sl}, (ρ.set i (.oi C fs'))[j]? = some s → s.own = true → ∃ s', ρ[j]? = some s' ∧ s'.own = true := fun {j s} h o => by
      by_cases hj : i = j
      · subst hj; exact ⟨_, hi, rfl⟩
      · rw [ne hj] at h; exact ⟨s, h, o⟩
    obtain ⟨s1, q1, q2⟩ := low g1 o1
    obtain ⟨s2, q3, q4⟩ := low g2 o2
    exact e.rl.inj j k s1 s2 w q1 q2 q3 q4 g3 g4
  · by_cases hj : i = j
    · subst hj; rw [hs] at hq; cases hq; exact h0
    · rw [ne hj] at h; exact e.new j s q h o hq
def putFD (f : Str) (d : D) : List (Str × D) → List (Str × D)
  | [] => [(f, d)]
  | (g, y) :: r => if g = f then (g, d) :: r else (g, y) :: putFD f d r
theorem RepF.put {K : PySem.W.Frag} {F : Fz} {f : Str} {d : D} {v : V} (r : Rep K F d v) : ∀ {fs : List (Str × D)} {ws : List (Str × V)}, RepF K F fs ws → RepF K F (putFD f d fs) (putF f v ws)
  | _, _, .nil => .cons r .nil
  | (g, y) :: _, (_, z) :: _, .cons q s => by
    unfold putFD putF
    by_cases h : g = f
    · rw [if_pos h, if_pos h]; exact .cons r s
    · rw [if_neg h, if_neg h]; exact .cons q (RepF.put r s)
def oiAt (ρ : Env') (i : Nat) (Q : Addr × Addr → List (Str × D) → Prop) : Prop := match ρ[i]? with
  | some (.oi C fs) => Q C fs
  | _ => False
theorem oiAt_inv {ρ : Env'} {i : Nat} {Q : Addr × Addr → List (Str × D) → Prop} (h : oiAt ρ i Q) : ∃ C fs, ρ[i]? = some (.oi C fs) ∧ Q C fs := by
  unfold oiAt at h
  split at h
  · exact ⟨_, _, by assumption, h⟩
  · exact h.elim
def dPutF (K : PySem.W.Frag) (i : Nat) (f : Str) (t : TD) : DS := fun d ρ => t ρ (fun y => oiAt ρ i fun C fs => FldOk K C.1 f ∧ fs.length < 1000 ∧ d.nx (ρ.set i (.oi C (putFD f y fs)))) (d.ex ρ)
theorem rs_fldS {K : PySem.W.Frag} (i : Nat) {x f : Str} {p pos' : Pos} (h : RE X W e t) (hK : X.K = K := by rfl) (hN : X.N[i]? = some x := by rfl) (hv : Vis X.env.scope x := by first | exact Or.inl rfl | exact Or.inr (Or.inl rfl) | exact Or.inr (Or.inr rfl))
    (hd : (x == ("__debug__" : Str)) = false := by decide) (hcd : (x == ("__classdict__" : Str)) = false := by decide) (hs : swapsWith e (some (.Attribute (.Name x p) f pos')) pos.line X.env = pure false := by rfl) :
    RS X W (.Assign [.Attribute (.Name x p) f pos'] e pos) (dPutF K i f t) := by
  subst hK
  obtain ⟨te, e1, e2⟩ := h.run
  refine ⟨_, ps_fld (pe_var hN hv hd hcd) e1 hs, fun F0 H0 ρ σ F H D d en c q => e2 ρ σ F H _ _ _ en.rl (c.ex ρ σ F H en) (fun y v F1 H1 g r q1 => ?_) q⟩
  obtain ⟨C, fs, ho, q2, q3, q4⟩ := oiAt_inv q1
  have en1 := en.step g
  obtain ⟨p, dx, vs, h1, h2, h3, h5, -⟩ := en1.rl.oi i C fs ho
  exact ⟨_, h1, p, C.1, dx, vs, rfl, h2, q2.1, q2.2, by rw [h5.length]; exact q3, c.nx _ _ F1 _ (en1.putOi ho h1 (h5.put r)) q4⟩
/-! ### C(..) -/
/-- what a class's __init__ promises: the arguments, what is wanted of the fields, of an exception -/
abbrev DI := List D → (List (Str × D) → Prop) → EQ → Prop
def spI (K : PySem.W.Frag) (n : Nat) (C : Addr) (G : DI) : Sp := fun vs H Q E => ∃ (ds : List D) (F : Fz) (H1 : Hp) (x dx : Addr) (us : List V) (Qd : List (Str × D) → Prop) (Ed : EQ), vs = .ref x :: us ∧ H = upd (upd H1 dx (.own x)) x (.ins C dx []) ∧ H1 x = none ∧ H1 dx = none ∧ dx ≠ x ∧
  Same F H1 ∧ Reps K F ds us ∧ ds.length + 1 = n ∧ G ds Qd Ed ∧ (∀ fs ws F' H' dx', Go F H1 F' H' → H' x = some (.ins C dx' ws) → F' x = none → RepF K F' fs ws → Qd fs → Q .non H') ∧
  (∀ y cls d F' H', Go F H1 F' H' → XRep K F' H' y cls d → Ed y → E cls d H')
theorem run_makeS {CX : CXT} {k : Nat} {C f : Addr} {fd : FuncData} {ps : List Str} {sp : Sp} {E : L2.St → XK} {ds : List Value} {dvs : List V} {pins : List (Addr × Obj)} {σ : L2.St} {H : Hp} {s : Shared} {Q : VK} {us : List Value} {vs : List V}
    (M : Mk X.K C f) (F : FnOk X.prog X.w X.K X.mg X.base CX k f fd ps sp) (hr : Room (k + 1) X.A) (hb : Binds X.K fd ps ds) (hd : Vals dvs ds) (hx : PassesAt CX X σ (E σ)) (I : Inv X pins σ H s) (r : Vals vs us)
    (h : ∀ x dx, H x = none → H dx = none → dx ≠ x → sp (.ref x :: (vs ++ dvs)) (upd (upd H dx (.own x)) x (.ins C dx [])) (fun v H2 => v = .non ∧ Q (.ref x) H2) (E σ)) :
    wpAny (model X.prog X.w) X.A (call (.ref C) us) (EP X pins σ Q) X.xe s := by
  have new1 : H s.heap.objs.size = none := I.hok.fresh (Nat.le_refl _)
  have new2 : H (s.heap.objs.size + 1) = none := I.hok.fresh (Nat.le_succ _)
  have hq := h (s.heap.objs.size + 1) s.heap.objs.size new2 new1 (Nat.ne_of_lt (Nat.lt_succ_self _))
  have I2 := Inv.made (C := C) I
  have r2 : Vals (V.ref (s.heap.objs.size + 1) :: (vs ++ dvs)) (Value.ref (s.heap.objs.size + 1) :: (us ++ ds)) := .cons rfl (r.append hd)
  have hl : (Value.ref (s.heap.objs.size + 1) :: us ++ ds).length = ps.length := by
    have q := r2.length
    rw [F.len _ _ _ _ hq] at q
    exact q.symm
  have go := F.run _ X.stack _ _ ⟨Value.ref (s.heap.objs.size + 1) :: us, []⟩ (Value.ref (s.heap.objs.size + 1) :: (us ++ ds)) _ _ (E σ) (hr.make C us []) (I2.env0.make C us []) (hb _ (Value.ref (s.heap.objs.size + 1) :: us) I2.kIn hl) r2 hq
  refine wpAny_call (make_map (f := f) I.kIn M.makes M.init (beq_iff_eq.mp M.fn) (codeAny_mono go fun r s' hq' => ?_))
  match r, hq' with
  | .error e, hq' => exact hx pins _ _ e s' I2 hq'
  | .ok (.ret u), hq' =>
    obtain ⟨v, H', I3, rv, ev, q3⟩ := I2.after hq'
    subst ev
    exact ⟨rv, V.ref (s.heap.objs.size + 1), H', I3, rfl, q3⟩
  | .ok .next, hq' => exact False.elim hq'
  | .ok .brk, hq' => exact False.elim hq'
  | .ok .cont, hq' => exact False.elim hq'
def tMakeS (C : Addr) (sp : Sp) (dvs : List V) (E : L2.St → XK) (u : TA) : TE := fun σ H Q => u σ H fun vs H1 => ∀ x dx, H1 x = none → H1 dx = none → dx ≠ x →
  sp (.ref x :: (vs ++ dvs)) (upd (upd H1 dx (.own x)) x (.ins C dx [])) (fun v H2 => v = .non ∧ Q (.ref x) H2) (E σ)
theorem pe_makeS {CX : CXT} {k : Nat} {C f : Addr} {fd : FuncData} {ps : List Str} {sp : Sp} {E : L2.St → XK} {ds : List Value} {dvs : List V} {x : Str} {p : Pos} {u : TA} (M : Mk X.K C f) (F : FnOk X.prog X.w X.K X.mg X.base CX k f fd ps sp) (hr : Room (k + 1) X.A) (hg : Gl X x) (hm : X.mg x = some (.ref C)) (hb : Binds X.K fd ps ds) (hd : Vals dvs ds) (hx : ∀ σ, PassesAt CX X σ (E σ))
    (ha : PA X (e :: es) u) (hdb : (x == ("__debug__" : Str)) = false) (he : starEach (e :: es) X.env = (false, eval e X.env) :: starEach es X.env) (hpl : (backTo pos (starEach es X.env)).any (·.1) = false) :
    PE X (.Call (.Name x p) (e :: es) [] pos) (tMakeS C sp dvs E u) := by
  refine ⟨fun pins s σ H Q I h => wpAny_Call_Name_kw (ld_glob I hg hm ?_ hdb)⟩
  refine PySem.W.callWith_K (h₀ := X.base) I.ok.mod.kin M.kp (thn (ha.run pos pins s σ H _ I h) fun us s1 hh => ?_) he hpl
  obtain ⟨vs, H1, I1, r, q⟩ := hh
  exact ⟨I1.kIn, run_makeS M F hr hb hd (hx σ) I1 r q⟩
/-- a class of the text: its __init__ and its promise -/
structure FI (P : Program) (w : World) (K : PySem.W.Frag) (mg : Str → Option Value) (base : Heap) (k : Nat) (C : Addr) (n : Nat) (dd : List D) (G : DI) : Prop where
  ok : ∃ (f : Addr) (fd : FuncData) (ps : List Str) (dvs : List V) (ds : List Value), FnOk P w K mg base (L2.CX P w) k f fd ps (spI K n C G) ∧ Binds K fd ps ds ∧ Vals dvs ds ∧ (∀ F, Reps K F dd dvs) ∧ Mk K C f
def dMake (n : Nat) (C : Addr) (dd : List D) (G : DI) (ts : TDs) : TD := fun ρ Q E => ts ρ (fun ds => (ds ++ dd).length + 1 = n ∧ G (ds ++ dd) (fun fs => Q (.ins C fs)) E) E
theorem re_make {k n : Nat} {C : Addr} {dd : List D} {G : DI} {x : Str} {p : Pos} (h : FI X.prog X.w X.K X.mg X.base k C n dd G) (hr : Room (k + 1) X.A) (hm : X.mg x = some (.ref C)) (tk : Takes X W) (ha : RA X W (e :: es) ts)
    (hg : Gl X x := by rfl) (hdb : (x == ("__debug__" : Str)) = false := by decide) (he : starEach (e :: es) X.env = (false, eval e X.env) :: starEach es X.env := by rfl) (hpl : (backTo pos (starEach es X.env)).any (·.1) = false := by rfl) :
    RE X W (.Call (.Name x p) (e :: es) [] pos) (dMake n C dd G ts) := by
  obtain ⟨f, fd, ps, dvs, dsv, F, bn, vl, hd, M⟩ := h.ok
  obtain ⟨ta, h1, h2⟩ := ha.run
  refine ⟨_, pe_makeS M F hr hg hm bn vl (fun σ => passAt tk σ) h1 hdb he hpl, fun ρ σ F H Qd E Q rl xp kk q => h2 ρ σ F H _ E _ rl xp (fun ds vs F1 H1 g1 r1 q1 => ?_) q⟩
  intro x dx nx ndx ne
  refine ⟨ds ++ dd, F1, H1, x, dx, vs ++ dvs, _, E, rfl, rfl, nx, ndx, ne, g1.fh, r1.append (hd F1), q1.1, q1.2, fun fs ws F' H' dx' g hx fx r qd => ⟨rfl, ?_⟩, fun y cls d F' H' g r ex => xp y cls d F' H' (g1.trans g) r ex⟩
  have g2 := g1.trans g
  have gz : Go F H (F'.upd x (.ins C dx' ws)) H' := by
    refine ⟨g2.ff.trans (same_updF fx), g2.hh, fun b u q => ?_, fun b z1 z2 => ?_⟩
    · rw [Fz.upd_h] at q
      by_cases z : b = x
      · subst z; rw [upd_same] at q; cases q; exact hx
      · rw [upd_ne z] at q; exact g2.fh _ _ q
    · rw [Fz.upd_h, upd_ne (fun z => by rw [z] at z2; exact z2 (g1.hh.free nx))]; exact g2.nn b z1 z2
  exact kk _ _ _ H' gz (.ins upd_same (r.mono (same_updF fx))) qd
end
/-! ### a def keeps its promise -/
def startD (N : List Str) (ds : List D) : Env' := ds.map .sh ++ List.replicate (N.length - ds.length) .no
theorem start_rl {K : PySem.W.Frag} {N : List Str} {ds : List D} {vs : List V} {F : Fz} {H : Hp} (e : Same F H) (r : Reps K F ds vs) : Rl K (startD N ds) (L2.start N vs) F H := by
  have hl := r.length
  have len : (startD N ds).length = (L2.start N vs).length := by
    unfold startD L2.start
    rw [List.length_append, List.length_append, List.length_map, List.length_map, List.length_replicate, List.length_replicate, hl]
  have inv : ∀ {i : Nat} {s : Sl}, (startD N ds)[i]? = some s → s ≠ .no → ∃ d, s = .sh d ∧ ds[i]? = some d ∧ i < ds.length := fun {i s} h ne => by
    unfold startD at h
    by_cases hi : i < ds.length
    · rw [List.getElem?_append_left (by rw [List.length_map]; exact hi), List.getElem?_map] at h
      cases q : ds[i]? with
      | none => rw [q] at h; cases h
      | some d => rw [q] at h; cases h; exact ⟨d, rfl, rfl, hi⟩
    · rw [List.getElem?_append_right (by rw [List.length_map]; omega), List.getElem?_replicate] at h
      split at h
      · cases h; exact absurd rfl ne
      · cases h
  refine ⟨len, e, fun i d h => ?_, fun i es h => ?_, fun i C fs h => ?_, fun i kvs h => ?_, fun i j s t v h1 o1 h2 o2 h3 h4 => ?_⟩
  · obtain ⟨d', q, h', hi⟩ := inv h (fun z => nomatch z)
    cases q
    obtain ⟨v, h1, h2⟩ := r.get h'
    refine ⟨v, ?_, h2⟩
    unfold L2.start
    rw [List.getElem?_append_left (by rw [List.length_map]; omega), List.getElem?_map, h1]
    rfl
  · obtain ⟨d', q, _⟩ := inv h (fun z => nomatch z); cases q
  · obtain ⟨d', q, _⟩ := inv h (fun z => nomatch z); cases q
  · obtain ⟨d', q, _⟩ := inv h (fun z => nomatch z); cases q
  · obtain ⟨d', q, _⟩ := inv h1 (fun z => by subst z; cases o1)
    subst q; cases o1
theorem start_own {N : List Str} {ds : List D} {i : Nat} {s : Sl} (h : (startD N ds)[i]? = some s) : ¬ s.own = true := by
  unfold startD at h
  by_cases hi : i < ds.length
  · rw [List.getElem?_append_left (by rw [List.length_map]; exact hi), List.getElem?_map] at h
    cases q : ds[i]? with
    | none => rw [q] at h; cases h
    | some d => rw [q] at h; cases h; exact Bool.false_ne_true
  · rw [List.getElem?_append_right (by rw [List.length_map]; omega), List.getElem?_replicate] at h
    split at h
    · cases h; exact Bool.false_ne_true
    · cases h
abbrev WF (E : XK) : WX := fun cls dx _ H => E cls dx H
end Dl

/-! The D-layer, part 10: a law's end. -/
namespace Dl
open PySem PySem.Spec
open PyProof.Rows L2
/-- what a law promises: of every script of so many ints, True -/
def gLaw (n : Nat) : DF := fun ds Q _ => ∃ ns : List Int, ds = [.frl (ns.map .int)] ∧ ns.length ≤ n ∧ (∀ z ∈ ns, Builtin.Int.intBits z ≤ 1048576) ∧ Q (.bl true)
theorem reps_ints {K : PySem.W.Frag} {F : Fz} : ∀ ns : List Int, Reps K F (ns.map D.int) (ns.map V.int)
  | [] => .nil
  | n :: ns => .cons (.int n) (reps_ints ns)
def topJ (H : Hp) : Addr → Tg := fun p => match H p with
  | none => .a
  | some _ => .k
theorem topJ_l (H : Hp) (p : Addr) (h : topJ H p = .j) : ∃ vs, H p = some (.lst vs) := by
  unfold topJ at h
  cases q : H p <;> rw [q] at h <;> cases h
theorem topJ_n (H : Hp) (p : Addr) (h : H p = none) : topJ H p = .a := by
  unfold topJ
  rw [h]
theorem topJ_k (H : Hp) : Same H (Fz.kh ⟨H, topJ H, topJ_l H, topJ_n H⟩) := fun p o h => by
  rw [Fz.kh_of _ (by show topJ H p = .k; unfold topJ; rw [h])]
  exact h
theorem law_end {l : PySem.W.OpenLaw} {n k : Nat} {q : Program} {loose : List Str} {XP : (Str → Option Value) → Heap → Prop} {YP : World → Heap → Prop} {d : DefRec} {K : Params → PySem.W.Frag} {x : Str}
    (hn : l.most = some n) (hn2 : n ≤ sizeLine) (hdf : d.params.defaults = []) (hr : Room k callerA) (hY : ∀ (w : World) (h : Heap), YP w h → (K w.params).In h)
    (F : ∀ (w : World) (mg : Str → Option Value) (fa : Addr) (h : Heap), (K w.params).In h → h.Ns mainGlobals mg → mg d.name = some (.ref fa) →
      ∃ fd : FuncData, (∀ (s : Shared) (u : Value), BindsTo s fd ⟨[u], []⟩ [(x, u)]) ∧
        ∀ base : Heap, (K w.params).In base → base.Ns mainGlobals mg → FnOk l.prog w (K w.params) mg base (L2.CX l.prog w) k fa fd [x] (spD (K w.params) 1 (gLaw n))) :
    PySem.W.WalkO q loose XP YP l.row.toRowW d [] (fun f vs => PySem.call f vs) := by
  refine L2.walk_ofB (K := K) (CX := fun w => L2.CX l.prog w) (sp := fun w => spD (K w.params) 1 (gLaw n)) hn hn2 hdf hr hY F (fun w H a ns h1 hb h2 h3 => ?_) fun w H s e s' z => ?_
  · refine ⟨[.frl (ns.map .int)], ⟨H, topJ H, topJ_l H, topJ_n H⟩, fun d => d = .bl true, fun _ => False, Same.refl _, .cons (.frl (same_seqL (topJ_k H) h3) (by rw [List.length_map]; omega) (reps_ints ns)) .nil, rfl, ⟨ns, rfl, h1, hb, rfl⟩, fun d v F' H' g r e => ?_, fun _ _ _ _ _ _ _ z => z.elim⟩
    subst e
    cases r
    rfl
  · obtain ⟨_, _, _, _, _, _, _, _, _, _, _, _, z⟩ := z
    exact z.elim
/-- a def as it stands behind the top, whatever its defaults are -/
theorem def_okA {P : Program} {w : World} {K : PySem.W.Frag} {mg : Str → Option Value} {base : Heap} {name qual : Str} {st : Stmt} {f : Addr} {N ps : List Str} {k n : Nat} {G : DF} {tb : DS} {oc dV kV doc pm cdv ct : Value} {od an : Option Addr} {osl : Array (Option Value)}
    (lk : K.lookup f = some ⟨oc, od, .func (PySem.W.fnOf name qual (defArgs st) (defBody st) (defScope st) dV kV doc pm an cdv ct), osl⟩) (hcd : PySem.W.codeIn K cdv qual = true) (S : FnScope N ps (defScope st)) (hn : ps.length = n)
    (body : ∀ (cdv : Value) (A : Around) (outer : List Env) (s : Shared) (H : Hp) (E : XK), Room k (A.deeper (envOfC qual (defScope st) s.heap.objs.size f cdv)) → RSs (cxOf (L2.CX P w) P w K mg base N qual (defScope st) f cdv A outer s H E) (WF E) (defBody st) tb)
    (read : ∀ ds Q E, ds.length = n → G ds Q E → tb ⟨fun _ => Q .non, Q, fun _ => False, fun _ => False, fun _ => E, fun _ => False, fun _ _ => False⟩ (startD N ds)) :
    FnOk P w K mg base (L2.CX P w) (k + 1) f (PySem.W.fnOf name qual (defArgs st) (defBody st) (defScope st) dV kV doc pm an cdv ct) ps (spD K n G) := by
  refine fn_of lk hcd S (fun vs H Q E h => ?_) fun A outer s H vs Q E hr h => ?_
  · obtain ⟨ds, F, Qd, Ed, _, r, hl, _⟩ := h
    rw [r.length, hl, hn]
  · obtain ⟨ts, h1, h2⟩ := (body cdv A outer s H E hr).run
    refine ⟨ts, h1, ?_⟩
    obtain ⟨ds, F1, Qd, Ed, sf, r, hl, g, k1, k2⟩ := h
    have rl := start_rl (N := N) sf r
    refine h2 F1 H (startD N ds) _ F1 H _ ⟨fun _ => Qd .non, Qd, fun _ => False, fun _ => False, fun _ => Ed, fun _ => False, fun _ _ => False⟩ ⟨rl, .refl sf, fun i s p h o hs => ?_⟩ ⟨fun ρ σ F' H' e q => k1 _ _ F' H' e.go .non q, fun x v F' H' g r q => k1 x v F' H' g r q, fun _ _ _ _ _ q => q.elim, fun _ _ _ _ _ q => q.elim, fun ρ σ F' H' e x cls dx F2 H2 g r q => k2 x cls dx F2 H2 (e.go.trans g) r q, fun _ _ _ _ _ _ q => q.elim, fun _ _ _ _ _ _ _ _ _ _ _ _ q => q.elim⟩ (read ds Qd Ed hl g)
    exact absurd o (start_own h)
/-! ### short names of readings (what gen.py prints) -/
def dLstN (ts : TDs) : TDs := fun ρ Q E => ts ρ (fun ds => few ds ∧ Q ds) E
def dListN (t : TD) : TDs := fun ρ Q E => t ρ (fun d => kListN d Q) E
end Dl

/-! The D-layer, part 11: more operators. -/
namespace Dl
open PySem PySem.Spec
open PyProof.Rows L2
section
variable {X : Cx} {W : WX} {e a b c : Expr} {t ta tb tc : TD} {pos : Pos}
theorem Pk.non {K : PySem.W.Frag} {F : Fz} {H : Hp} {v : V} (p : Pk K F H .non v) : v = .non := by
  rcases p with r | ⟨p, vs, ds, q, _⟩
  · cases r; rfl
  · cases q
/-- a < b < c -/
def dChain (k k' : KD) (ta tb tc : TD) : TD := fun ρ Q E => ta ρ (fun x => tb ρ (fun y => k x y (asB fun c => ifP c (tc ρ (fun z => k' y z Q) E) (Q (.bl false)))) E) E
theorem rt_chain' {op op' : CmpOp} {k k' : KD} (ho : OpD X (compareOp op) k) (ho' : OpD X (compareOp op') k') (ha : RP X W a ta) (hb : RP X W b tb) (hc : RP X W c tc) (hm : lastMarks [op, op'] [b, c] = false := by with_unfolding_all rfl) :
    RT X W (.Compare a [op, op'] [b, c] pos) (dTest (dChain k k' ta tb tc)) := by
  obtain ⟨r, o1, o2⟩ := ho
  obtain ⟨r', o1', o2'⟩ := ho'
  obtain ⟨te1, a1, a2⟩ := ha.run
  obtain ⟨te2, b1, b2⟩ := hb.run
  obtain ⟨te3, c1, c2⟩ := hc.run
  refine ⟨_, pt_chain o1 o1' a1 b1 c1 hm, fun ρ σ F H Qd E Q rl xp kk q => a2 ρ σ F H _ E _ rl xp (fun x vx F1 H1 g1 px q1 => b2 ρ σ F1 H1 _ E _ (rl.go g1) (xp.go g1) (fun y vy F2 H2 g2 py q2 => ?_) q1) q⟩
  refine o2 x y vx vy F2 H2 _ _ g2.fh (px.go g2) py (fun d v F3 H3 g3 rd q3 => ?_) q2
  obtain ⟨cc, rfl, q4⟩ := asB_inv q3
  cases rd
  have g := (g1.trans g2).trans g3
  refine ⟨cc, rfl, ?_⟩
  cases cc with
  | false =>
    rw [ifP_f] at q4
    exact iteF ⟨false, rfl, kk _ F3 H3 g q4⟩
  | true =>
    rw [ifP_t] at q4
    refine iteT (c2 ρ σ F3 H3 _ E _ (rl.go g) (xp.go g) (fun z vz F4 H4 g4 pz q5 => ?_) q4)
    refine o2' y z vy vz F4 H4 _ _ g4.fh ((py.go g3).go g4) pz (fun d v F5 H5 g5 r5 q6 => ?_) q5
    obtain ⟨c5, rfl, q7⟩ := asB_inv q6
    cases r5
    exact ⟨c5, rfl, kk _ F5 H5 ((g.trans g4).trans g5) q7⟩
end
end Dl

/-! The D-layer, part 12: readings made short. -/
namespace Dl
open PySem PySem.Spec
open PyProof.Rows L2
theorem compR_map {g : DG} {tt : TDb} {te : TD} {ρ : Env'} {Q : List D → Prop} (f : D → D) : ∀ (ds acc : List D),
    (∀ d ∈ ds, ∀ (K1 : D → Prop) (K0 : Prop), K1 (f d) → g d ρ fun ρ2 => tt ρ2 (fun b => ifP b (te ρ2 K1 (fun _ => False)) (K0)) fun _ => False) → Q (acc ++ ds.map f) → compR g tt te ρ Q ds acc
  | [], acc, _, q => by rw [List.map_nil, List.append_nil] at q; exact q
  | d :: ds, acc, h, q => by
    refine h d List.mem_cons_self _ _ (compR_map f ds _ (fun e he => h e (List.mem_cons_of_mem _ he)) ?_)
    rw [List.append_assoc]
    exact q
theorem irg_map : ∀ (n : Nat) (lo : Int), irg lo n = (List.range n).map fun k : Nat => D.int (lo + (k : Int))
  | 0, lo => rfl
  | n + 1, lo => by
    rw [List.range_succ_eq_map, List.map_cons, List.map_map]
    show D.int lo :: irg (lo + 1) n = _
    rw [irg_map n (lo + 1)]
    congr 1
    · rw [show lo + ((0 : Nat) : Int) = lo by omega]
    · apply List.map_congr_left
      intro k _
      show D.int (lo + 1 + k) = D.int (lo + ((k + 1 : Nat) : Int))
      rw [show lo + 1 + (k : Int) = lo + ((k + 1 : Nat) : Int) by omega]
theorem irg0 (n : Nat) : irg 0 n = (List.range n).map fun k : Nat => D.int (k : Int) := by
  rw [irg_map]
  apply List.map_congr_left
  intro k _
  show D.int (0 + (k : Int)) = D.int (k : Int)
  rw [Int.zero_add]
theorem few_of {ds : List D} (h : ds.length ≤ 16777216) : few ds := h
theorem atI_nn {α : Type} {xs : List α} {k : Nat} : atI xs (k : Int) = xs[k]? := by
  unfold atI ixN
  rw [if_pos (by omega)]
  by_cases h : ((k : Int) < (xs.length : Int))
  · rw [if_pos h]; rfl
  · rw [if_neg h]
    show none = _
    rw [List.getElem?_eq_none (by omega)]
theorem mulOk_r {i j : Int} (h1 : -(2 ^ 64) < j) (h2 : j < 2 ^ 64) : mulOk i j := .of_right (intBits_le_64 h1 h2)
theorem mulOk_l {i j : Int} (h1 : -(2 ^ 64) < i) (h2 : i < 2 ^ 64) : mulOk i j := .of_left (intBits_le_64 h1 h2)
theorem mulOk_le {i j : Int} {m n : Nat} (h1 : Builtin.Int.intBits i ≤ m) (h2 : Builtin.Int.intBits j ≤ n) (h : m + n ≤ 134217728) : mulOk i j := IntMulOk.of_le h1 h2 h
theorem divOk_small {j : Int} (h0 : j ≠ 0) (h : j.natAbs < 2 ^ 8000) : divOk j := ⟨h0, Nat.lt_of_lt_of_le (PySem.Flt.log2_lt_of (by decide) h) (by decide)⟩
end Dl
namespace Dl
open PySem PySem.Spec
open PyProof.Rows L2
/-! ### lists of ints by a function -/
def tabD (m : Nat) (F : Nat → Int) : List D := (List.range m).map fun j => D.int (F j)
theorem tab_len (m : Nat) (F : Nat → Int) : (tabD m F).length = m := by unfold tabD; rw [List.length_map, List.length_range]
theorem tab_get {m : Nat} {F : Nat → Int} {j : Nat} (h : j < m) : (tabD m F)[j]? = some (.int (F j)) := by
  unfold tabD
  rw [List.getElem?_map, List.getElem?_range h]
  rfl
theorem tab_list (ns : List Int) : ns.map D.int = tabD ns.length fun j => ns.getD j 0 := by
  refine List.ext_getElem? fun i => ?_
  by_cases hi : i < ns.length
  · rw [tab_get hi, List.getElem?_map, List.getElem?_eq_getElem hi, List.getD_eq_getElem?_getD, List.getElem?_eq_getElem hi]
    rfl
  · rw [List.getElem?_eq_none (by rw [List.length_map]; omega), List.getElem?_eq_none (by rw [tab_len]; omega)]
theorem tab_snoc (m : Nat) (F : Nat → Int) (x : Int) : tabD m F ++ [.int x] = tabD (m + 1) (fun j => if j = m then x else F j) := by
  unfold tabD
  rw [List.range_succ, List.map_append]
  congr 1
  · exact List.map_congr_left fun j hj => by
      show D.int (F j) = D.int (if j = m then x else F j)
      rw [if_neg (Nat.ne_of_lt (List.mem_range.mp hj))]
  · simp
/-! ### plain data -/
mutual
def D.okk : Nat → D → Bool
  | _, .non => true
  | _, .bl _ => true
  | _, .int _ => true
  | _, .str x => PyData.strOk x
  | 0, _ => false
  | n + 1, .tup ds => D.okks n ds
  | n + 1, .lst ds => D.okks n ds
  | n + 1, .frl ds => D.okks n ds
  | n + 1, .mu ds => D.okks n ds
  | _, _ => false
def D.okks : Nat → List D → Bool
  | _, [] => true
  | n, d :: ds => D.okk n d && D.okks n ds
end
theorem okks_all {n : Nat} : ∀ {ds : List D}, (∀ d ∈ ds, d.okk n = true) → D.okks n ds = true
  | [], _ => by unfold D.okks; rfl
  | d :: ds, h => by
    unfold D.okks
    rw [h d List.mem_cons_self, okks_all fun e he => h e (List.mem_cons_of_mem _ he)]
    rfl
mutual
theorem okk_plain : ∀ (n : Nat) (d : D), d.okk n = true → d.flat = true ∧ d.py.canLay0 = true ∧ d.py.depth ≤ n
  | n, .non, _ => by unfold D.flat D.py PyData.canLay0 PyData.depth; exact ⟨rfl, rfl, Nat.zero_le _⟩
  | n, .bl _, _ => by unfold D.flat D.py PyData.canLay0 PyData.depth; exact ⟨rfl, rfl, Nat.zero_le _⟩
  | n, .int _, _ => by unfold D.flat D.py PyData.canLay0 PyData.depth; exact ⟨rfl, rfl, Nat.zero_le _⟩
  | n, .str x, h => by
    unfold D.flat D.py PyData.canLay0 PyData.depth
    have h' : PyData.strOk x = true := by cases n <;> (unfold D.okk at h; exact h)
    exact ⟨rfl, h', Nat.zero_le _⟩
  | 0, .tup ds, h => by unfold D.okk at h; cases h
  | 0, .lst ds, h => by unfold D.okk at h; cases h
  | 0, .frl ds, h => by unfold D.okk at h; cases h
  | 0, .mu ds, h => by unfold D.okk at h; cases h
  | n + 1, .tup ds, h => by
    unfold D.okk at h
    obtain ⟨h1, h2, h3⟩ := okks_plain n ds h
    unfold D.flat D.py PyData.canLay0 PyData.depth
    exact ⟨h1, h2, Nat.succ_le_succ h3⟩
  | n + 1, .lst ds, h => by
    unfold D.okk at h
    obtain ⟨h1, h2, h3⟩ := okks_plain n ds h
    unfold D.flat D.py PyData.canLay0 PyData.depth
    exact ⟨h1, h2, Nat.succ_le_succ h3⟩
  | n + 1, .frl ds, h => by
    unfold D.okk at h
    obtain ⟨h1, h2, h3⟩ := okks_plain n ds h
    unfold D.flat D.py PyData.canLay0 PyData.depth
    exact ⟨h1, h2, Nat.succ_le_succ h3⟩
  | n + 1, .mu ds, h => by
    unfold D.okk at h
    obtain ⟨h1, h2, h3⟩ := okks_plain n ds h
    unfold D.flat D.py PyData.canLay0 PyData.depth
    exact ⟨h1, h2, Nat.succ_le_succ h3⟩
  | n, .ty _, h => by cases n <;> (unfold D.okk at h; cases h)
  | n, .cls _, h => by cases n <;> (unfold D.okk at h; cases h)
  | n, .ins _ _, h => by cases n <;> (unfold D.okk at h; cases h)
  | n, .dic _, h => by cases n <;> (unfold D.okk at h; cases h)
  | n, .ob _, h => by cases n <;> (unfold D.okk at h; cases h)
theorem okks_plain : ∀ (n : Nat) (ds : List D), D.okks n ds = true → D.flats ds = true ∧ PyData.canLayAll0 (D.pys ds) = true ∧ PyData.depthAll (D.pys ds) ≤ n
  | n, [], _ => by unfold D.flats D.pys PyData.canLayAll0 PyData.depthAll; exact ⟨rfl, rfl, Nat.zero_le _⟩
  | n, d :: ds, h => by
    unfold D.okks at h
    rw [Bool.and_eq_true] at h
    obtain ⟨h1, h2, h3⟩ := okk_plain n d h.1
    obtain ⟨k1, k2, k3⟩ := okks_plain n ds h.2
    unfold D.flats D.pys PyData.canLayAll0 PyData.depthAll
    rw [h1, h2, k1, k2]
    exact ⟨rfl, rfl, Nat.max_le.mpr ⟨h3, k3⟩⟩
end
theorem plain_of {d : D} (h : d.okk 64 = true) : plain d := by
  obtain ⟨h1, h2, h3⟩ := okk_plain 64 d h
  exact ⟨h1, by unfold SeqAt.shaped; rw [h2, decide_eq_true h3]; rfl⟩
theorem okk_tab (n m : Nat) (F : Nat → Int) : D.okks n (tabD m F) = true := okks_all fun d hd => by
  obtain ⟨j, _, rfl⟩ := List.mem_map.mp hd
  cases n <;> rfl
mutual
theorem eqv_self : ∀ (n : Nat) (d : D), d.okk n = true → PyData.eqv d.py d.py = true
  | n, .non, _ => by unfold D.py PyData.eqv; rfl
  | n, .bl _, _ => by unfold D.py PyData.eqv; exact beq_self_eq_true _
  | n, .int _, _ => by unfold D.py PyData.eqv; exact beq_self_eq_true _
  | n, .str x, h => by unfold D.py PyData.eqv; exact beq_self_eq_true _
  | 0, .tup ds, h => by unfold D.okk at h; cases h
  | 0, .lst ds, h => by unfold D.okk at h; cases h
  | 0, .frl ds, h => by unfold D.okk at h; cases h
  | 0, .mu ds, h => by unfold D.okk at h; cases h
  | n + 1, .tup ds, h => by unfold D.okk at h; unfold D.py PyData.eqv; exact eqvs_self n ds h
  | n + 1, .lst ds, h => by unfold D.okk at h; unfold D.py PyData.eqv; exact eqvs_self n ds h
  | n + 1, .frl ds, h => by unfold D.okk at h; unfold D.py PyData.eqv; exact eqvs_self n ds h
  | n + 1, .mu ds, h => by unfold D.okk at h; unfold D.py PyData.eqv; exact eqvs_self n ds h
  | n, .ty _, h => by cases n <;> (unfold D.okk at h; cases h)
  | n, .cls _, h => by cases n <;> (unfold D.okk at h; cases h)
  | n, .ins _ _, h => by cases n <;> (unfold D.okk at h; cases h)
  | n, .dic _, h => by cases n <;> (unfold D.okk at h; cases h)
  | n, .ob _, h => by cases n <;> (unfold D.okk at h; cases h)
theorem eqvs_self : ∀ (n : Nat) (ds : List D), D.okks n ds = true → PyData.eqvAll (D.pys ds) (D.pys ds) = true
  | n, [], _ => by unfold D.pys PyData.eqvAll; rfl
  | n, d :: ds, h => by
    unfold D.okks at h
    rw [Bool.and_eq_true] at h
    unfold D.pys PyData.eqvAll
    rw [eqv_self n d h.1, eqvs_self n ds h.2]
    rfl
end
/-! ### isinstance of ints and the like -/
end Dl
namespace Dl
/-! ### what dsimp may use of lists -/
section
variable {α β : Type}
theorem q_map_cons (f : α → β) (a : α) (l : List α) : (a :: l).map f = f a :: l.map f := rfl
theorem q_map_nil (f : α → β) : ([] : List α).map f = [] := rfl
theorem q_app_cons (a : α) (l m : List α) : (a :: l) ++ m = a :: (l ++ m) := rfl
theorem q_app_nil (m : List α) : [] ++ m = m := rfl
theorem q_len_cons (a : α) (l : List α) : (a :: l).length = l.length + 1 := rfl
theorem q_len_nil : ([] : List α).length = 0 := rfl
theorem q_rep_0 (a : α) : List.replicate 0 a = [] := rfl
theorem q_rep_s (n : Nat) (a : α) : List.replicate (n + 1) a = a :: List.replicate n a := rfl
theorem q_get_0 (a : α) (l : List α) : (a :: l)[0]? = some a := rfl
theorem q_get_s (a : α) (l : List α) (n : Nat) : (a :: l)[n + 1]? = l[n]? := rfl
theorem q_set_0 (a b : α) (l : List α) : (a :: l).set 0 b = b :: l := rfl
theorem q_set_s (a b : α) (l : List α) (n : Nat) : (a :: l).set (n + 1) b = a :: l.set n b := rfl
end
end Dl
namespace Dl
open PySem PySem.Spec
open PyProof.Rows L2
section
variable {g : DG} {tt : TDb} {te : TD} {ρ : Env'} {Q : List D → Prop}
theorem compL_map (f : D → D) (ds acc : List D)
    (h : ∀ d ∈ ds, ∀ (K1 : D → Prop) (K0 : Prop), K1 (f d) → g d ρ fun ρ2 => tt ρ2 (fun b => ifP b (te ρ2 K1 (fun _ => False)) (K0)) fun _ => False) (q : Q (acc ++ ds.map f)) : compL g tt te ρ Q ds acc := ⟨compR_map f ds acc h q⟩
end
/-- a comprehension over a range -/
theorem compL_rng {g : DG} {tt : TDb} {te : TD} {ρ : Env'} {Q : List D → Prop} (n : Nat) (f : Nat → D)
    (h : ∀ k : Nat, k < n → ∀ (K1 : D → Prop) (K0 : Prop), K1 (f k) → g (.int (k : Int)) ρ fun ρ2 => tt ρ2 (fun b => ifP b (te ρ2 K1 (fun _ => False)) (K0)) fun _ => False)
    (q : Q ((List.range n).map f)) : compL g tt te ρ Q (irg 0 n) [] := by
  rw [irg0]
  refine compL_map (fun d => match d with | .int k => f k.toNat | d => d) _ _ (fun d hd K1 K0 hK => ?_) ?_
  · obtain ⟨k, hk, rfl⟩ := List.mem_map.mp hd
    exact h k (List.mem_range.mp hk) K1 K0 hK
  · rw [List.nil_append, List.map_map]
    exact q
end Dl

/-! The D-layer, part 13: loops by one turn. -/
namespace Dl
open PySem PySem.Spec
open PyProof.Rows L2
section
variable {g : DG} {tb : DS} {d : DE} {x : D} {xs : List D} {ρ : Env'}
theorem lp_r0 {i : Int} (h : d.nx ρ) : loopD g tb d (irg i 0) ρ := ⟨h⟩
theorem lp_rs {i : Int} {n : Nat} (h : g (.int i) ρ fun ρ2 => tb { d with nx := loopD g tb d (irg (i + 1) n), ct := loopD g tb d (irg (i + 1) n), bk := d.nx } ρ2) : loopD g tb d (irg i (n + 1)) ρ := by
  rw [loopD_eq] at h
  exact ⟨h⟩
end
end Dl

section
open Dl
local macro_rules | `(tactic| walk_at "rd") => `(tactic| ((conv => whnf); (try dsimp only [startD, wipeD, q_map_cons, q_map_nil, q_app_cons, q_app_nil, q_len_cons, q_len_nil, q_rep_0, q_rep_s, q_get_0, q_get_s, q_set_0, q_set_s, ifP_t, ifP_f, Nat.reduceAdd, Nat.reduceSub, Int.reduceToNat, Int.reducePow, Int.reduceAdd, Int.reduceMul])))
local macro_rules | `(tactic| walk_at "go") => `(tactic| ((try walk_at "rd"); (repeat (refine And.intro (by walk_at "sd") ?_; try walk_at "rd"))))
/-! The D-layer, part 14: numbers, fractions. -/
namespace Dl
open PySem PySem.Spec
open PyProof.Rows L2
local macro_rules | `(tactic| walk_at "sd") => `(tactic| first | with_reducible assumption | omega | with_reducible rfl | decide | exact few_of (by decide) | exact divOk_small (by decide) (by decide +kernel) | exact mulOk_r (by omega) (by omega) | exact mulOk_l (by omega) (by omega) | exact few_of (by simp only [List.length_append, List.length_map, List.length_cons, List.length_nil, tab_len, List.length_replicate]; omega))
def bnd (k : Nat) (z : Int) : Prop := z.natAbs < 2 ^ k
def shr (t b : Int) : Int := if b < 0 then -(Int.gcd t b : Int) else (Int.gcd t b : Int)
def fr (t b : Int) : D := .tup [.int (t.fdiv (shr t b)), .int (b.fdiv (shr t b))]
abbrev pr (t b : Int) : D := .tup [.int t, .int b]
def isWh : D → Option Bool
  | .int _ => some true
  | .bl _ => some false
  | .non => some false
  | .str _ => some false
  | .tup _ => some false
  | .lst _ => some false
  | .dic _ => some false
  | _ => none
abbrev dE (Q E : EQ) : DE := ⟨fun _ => Q .non, Q, fun _ => False, fun _ => False, fun _ => E, fun _ => False, fun _ _ => False⟩
theorem bits_of {k : Nat} {z : Int} (h : bnd k z) : Builtin.Int.intBits z ≤ k := intBits_le_iff.mpr h
theorem bnd_mono {j k : Nat} {z : Int} (h : bnd j z) (hk : j ≤ k) : bnd k z := Nat.lt_of_lt_of_le h (Nat.pow_le_pow_right (by decide) hk)
theorem bnd_mul {j k : Nat} {x y : Int} (h1 : bnd j x) (h2 : bnd k y) : bnd (j + k) (x * y) := intBits_le_iff.mp (Nat.le_trans (intBits_mul_le (bits_of h1) (bits_of h2)) (Nat.le_refl _))
theorem mul_of {j k : Nat} {x y : Int} (h1 : bnd j x) (h2 : bnd k y) (h : j + k ≤ 134217728) : mulOk x y := mulOk_le (bits_of h1) (bits_of h2) h
theorem two (x : Int) : x.fmod 2 = 0 ∨ x.fmod 2 = 1 := by
  have h1 := Int.fmod_nonneg_of_pos x (show (0 : Int) < 2 by decide)
  have h2 := Int.fmod_lt_of_pos x (show (0 : Int) < 2 by decide)
  omega
theorem fdiv_le {z s : Int} (hs : 1 ≤ s) : (z.fdiv s).natAbs ≤ z.natAbs := by
  have h := Int.mul_fdiv_add_fmod z s
  have h1 := Int.fmod_nonneg_of_pos z (show 0 < s by omega)
  have h2 := Int.fmod_lt_of_pos z (show 0 < s by omega)
  generalize z.fdiv s = u at h ⊢
  generalize z.fmod s = r at h h1 h2
  by_cases hu : 0 ≤ u
  · have : u ≤ s * u := by
      have := Int.mul_le_mul_of_nonneg_right hs hu
      omega
    omega
  · have : s * u ≤ u := by
      have := Int.mul_le_mul_of_nonpos_right hs (show u ≤ 0 by omega)
      omega
    have h3 : s * (u + 1) = s * u + s := by rw [Int.mul_add, Int.mul_one]
    have : s * (u + 1) ≤ u + 1 := by
      have := Int.mul_le_mul_of_nonpos_right hs (show u + 1 ≤ 0 by omega)
      omega
    omega
theorem fr_pos {t b : Int} (hb : 0 < b) : 0 < b.fdiv (shr t b) := by
  have h1 : (Int.gcd t b : Int) ∣ b := Int.gcd_dvd_right ..
  have h2 : Int.gcd t b ≠ 0 := fun e => by have := (Int.gcd_eq_zero_iff.mp e).2; omega
  obtain ⟨c, hc⟩ := h1
  unfold shr
  rw [if_neg (by omega)]
  have : b.fdiv (Int.gcd t b : Int) = c := by
    conv => lhs; arg 1; rw [hc]
    rw [Int.mul_comm]
    exact Int.mul_fdiv_cancel _ (by omega)
  rw [this]
  apply Int.pos_of_mul_pos_right (a := (Int.gcd t b : Int)) 
  · rw [← hc]; exact hb
  · omega
theorem shr_ge {t b : Int} (hb : 0 < b) : 1 ≤ shr t b := by
  have h2 : Int.gcd t b ≠ 0 := fun e => by have := (Int.gcd_eq_zero_iff.mp e).2; omega
  unfold shr
  rw [if_neg (by omega)]
  omega
theorem bnd_le {k : Nat} {x y : Int} (h : x.natAbs ≤ y.natAbs) (hy : bnd k y) : bnd k x := Nat.lt_of_le_of_lt h hy
theorem pick (l : List D) (n x : Int) (hn : n = (l.length : Int)) (h0 : 0 < n) : ∃ y, y ∈ l ∧ atI l (x.fmod n) = some y := by
  have h1 := Int.fmod_nonneg_of_pos x h0
  have h2 := Int.fmod_lt_of_pos x h0
  obtain ⟨k, hk⟩ := Int.eq_ofNat_of_zero_le h1
  rw [hk] at h2 ⊢
  have hl : k < l.length := by omega
  exact ⟨l[k], List.getElem_mem hl, by rw [atI_nn, List.getElem?_eq_getElem hl]⟩
theorem bnd_of {k : Nat} {z : Int} (h1 : -(2 ^ k) < z) (h2 : z < 2 ^ k) : bnd k z := by
  unfold bnd
  have e : ((2 ^ k : Nat) : Int) = 2 ^ k := by simp
  omega
theorem fr_bnds {k : Nat} {t b : Int} (hb : 0 < b) (bt : bnd k t) (bb : bnd k b) : 0 < b.fdiv (shr t b) ∧ bnd k (t.fdiv (shr t b)) ∧ bnd k (b.fdiv (shr t b)) :=
  ⟨fr_pos hb, bnd_le (fdiv_le (shr_ge hb)) bt, bnd_le (fdiv_le (shr_ge hb)) bb⟩
end Dl

/-! The D-layer, part 15: the defs of fractions, read once. -/
namespace Dl
open PySem PySem.Spec
open PyProof.Rows L2
local macro_rules | `(tactic| walk_at "sd") => `(tactic| first | with_reducible assumption | omega | with_reducible rfl | decide | exact few_of (by decide) | exact divOk_small (by decide) (by decide +kernel) | exact mulOk_r (by omega) (by omega) | exact mulOk_l (by omega) (by omega) | exact few_of (by simp only [List.length_append, List.length_map, List.length_cons, List.length_nil, tab_len, List.length_replicate]; omega))
abbrev g_is_whole : DF := fun ds Q _ => ∃ d b, ds = [d] ∧ isWh d = some b ∧ Q (.bl b)
abbrev N_is_whole : List Str := ["thing"]
def tb_is_whole (K : PySem.W.Frag) : DS :=
  (dRet (dAndV (dCB (kIsi K) (dCons (dVarP 0) (dCons (dC (.ty "int")) dNil))) (dNotV (dCB (kIsi K) (dCons (dVarP 0) (dCons (dC (.ty "bool")) dNil))))))
theorem rd_is_whole {K : PySem.W.Frag} (ds : List D) (Q E : EQ) (_ : ds.length = 1) (h : g_is_whole ds Q E) : tb_is_whole K (dE Q E) (startD N_is_whole ds) := by
  obtain ⟨d, b, rfl, hd, q⟩ := h
  unfold tb_is_whole dE
  cases d <;> first
    | (cases hd; walk_at "rd"; exact q)
    | cases hd
abbrev g__law_cell_at : DF := fun ds Q _ => ∃ (ns : List Int) (k : Nat), ds = [.frl (ns.map .int), .int k] ∧ Q (.int (ns.getD k 0))
abbrev N__law_cell_at : List Str := ["_law_script", "_law_k"]
def tb__law_cell_at : DS :=
  (dSq (dIf (dTest (dOp kLt (dVarP 1) (dCB kLen (dCons (dVarP 0) dNil)))) (dRet (dOp kIx (dVarP 0) (dVarP 1))) dNext) (dRet (dC (.int 0))))
theorem rd__law_cell_at (ds : List D) (Q E : EQ) (_ : ds.length = 2) (h : g__law_cell_at ds Q E) : tb__law_cell_at (dE Q E) (startD N__law_cell_at ds) := by
  obtain ⟨ns, k, rfl, q⟩ := h
  unfold tb__law_cell_at dE
  walk_at "rd"
  rw [List.length_map]
  rw [List.getD_eq_getElem?_getD] at q
  by_cases hk : k < ns.length
  · rw [decide_eq_true (by omega)]
    walk_at "rd"
    rw [atI_nn, List.getElem?_map, List.getElem?_eq_getElem hk]
    rw [List.getElem?_eq_getElem hk] at q
    exact q
  · rw [decide_eq_false (by omega)]
    walk_at "rd"
    rw [List.getElem?_eq_none (by omega)] at q
    exact q
end Dl

/-! The D-layer, part 16: fractions are equal where their cross products are. -/
namespace Dl
open PySem PySem.Spec
open PyProof.Rows L2
theorem fr_parts (t : Int) {b : Int} (hb : 0 < b) : ∃ s u v : Int, 0 < s ∧ 0 < v ∧ t = s * u ∧ b = s * v ∧ Nat.gcd u.natAbs v.natAbs = 1 ∧ t.fdiv (shr t b) = u ∧ b.fdiv (shr t b) = v := by
  have hg : 0 < Int.gcd t b := Nat.pos_of_ne_zero fun e => by have := (Int.gcd_eq_zero_iff.mp e).2; omega
  obtain ⟨u, hu⟩ : (Int.gcd t b : Int) ∣ t := Int.gcd_dvd_left ..
  obtain ⟨v, hv⟩ : (Int.gcd t b : Int) ∣ b := Int.gcd_dvd_right ..
  have hs : shr t b = (Int.gcd t b : Int) := by unfold shr; rw [if_neg (by omega)]
  have e1 : t.fdiv (Int.gcd t b : Int) = u := by
    conv => lhs; arg 1; rw [hu]
    exact Int.mul_fdiv_cancel_left _ (by omega)
  have e2 : b.fdiv (Int.gcd t b : Int) = v := by
    conv => lhs; arg 1; rw [hv]
    exact Int.mul_fdiv_cancel_left _ (by omega)
  have v0 : 0 < v := by
    have := fr_pos (t := t) hb
    rw [hs, e2] at this
    exact this
  refine ⟨_, u, v, by omega, v0, hu, hv, ?_, by rw [hs, e1], by rw [hs, e2]⟩
  have a1 : t.natAbs = Int.gcd t b * u.natAbs := by
    have := congrArg Int.natAbs hu
    rw [Int.natAbs_mul] at this
    exact this
  have a2 : b.natAbs = Int.gcd t b * v.natAbs := by
    have := congrArg Int.natAbs hv
    rw [Int.natAbs_mul] at this
    exact this
  have h1 : Int.gcd t b = Int.gcd t b * Nat.gcd u.natAbs v.natAbs := by
    rw [← Nat.gcd_mul_left, ← a1, ← a2]
    rfl
  have := Nat.eq_of_mul_eq_mul_left hg ((Nat.mul_one _).trans h1)
  exact this.symm
theorem fr_eq {t b t' b' : Int} (hb : 0 < b) (hb' : 0 < b') (h : t * b' = t' * b) : fr t b = fr t' b' := by
  obtain ⟨s, u, v, s0, v0, e1, e2, c, d1, d2⟩ := fr_parts t hb
  obtain ⟨s', u', v', s0', v0', e1', e2', c', d1', d2'⟩ := fr_parts t' hb'
  have h2 : u * v' = u' * v := by
    have : (s * s') * (u * v') = (s * s') * (u' * v) := by
      rw [e1, e2, e1', e2'] at h
      have a1 : s * u * (s' * v') = s * s' * (u * v') := by ac_rfl
      have a2 : s' * u' * (s * v) = s * s' * (u' * v) := by ac_rfl
      rw [a1, a2] at h
      exact h
    exact Int.eq_of_mul_eq_mul_left (Int.ne_of_gt (Int.mul_pos s0 s0')) this
  have h3 : u.natAbs * v'.natAbs = u'.natAbs * v.natAbs := by rw [← Int.natAbs_mul, ← Int.natAbs_mul, h2]
  have k1 : v.natAbs ∣ v'.natAbs := Nat.Coprime.dvd_of_dvd_mul_left (show Nat.Coprime v.natAbs u.natAbs by rw [Nat.coprime_comm]; exact c) ⟨u'.natAbs, by rw [h3, Nat.mul_comm]⟩
  have k2 : v'.natAbs ∣ v.natAbs := Nat.Coprime.dvd_of_dvd_mul_left (show Nat.Coprime v'.natAbs u'.natAbs by rw [Nat.coprime_comm]; exact c') ⟨u.natAbs, by rw [← h3, Nat.mul_comm]⟩
  have k3 := Nat.dvd_antisymm k1 k2
  have k4 : v = v' := by omega
  subst k4
  have k5 : u = u' := Int.eq_of_mul_eq_mul_right (Int.ne_of_gt v0) h2
  unfold fr
  rw [d1, d2, d1', d2', k5]
theorem bnd_add {k : Nat} {x y : Int} (h1 : bnd k x) (h2 : bnd k y) : bnd (k + 1) (x + y) := by
  unfold bnd at *
  rw [Nat.pow_succ]
  omega
/-- sum and bottom of rows along a point -/
def wsF : List Int → List (Int × Int) → Int → Int → Int × Int
  | r :: rs, p :: ps, T, B => wsF rs ps (T * p.2 + r * p.1 * B) (B * p.2)
  | _, _, T, B => (T, B)
def prD (p : Int × Int) : D := pr p.1 p.2
/-- points whose numbers are not great -/
def okP (k : Nat) (ps : List (Int × Int)) : Prop := ∀ p ∈ ps, 0 < p.2 ∧ bnd k p.1 ∧ bnd k p.2
theorem wsF_pos : ∀ (rs : List Int) (ps : List (Int × Int)) (T B : Int), 0 < B → (∀ p ∈ ps, 0 < p.2) → 0 < (wsF rs ps T B).2
  | [], ps, T, B, h, _ => by unfold wsF; exact h
  | r :: rs, [], T, B, h, _ => by unfold wsF; exact h
  | r :: rs, p :: ps, T, B, h, hp => by
    unfold wsF
    exact wsF_pos rs ps _ _ (Int.mul_pos h (hp p List.mem_cons_self)) fun q hq => hp q (List.mem_cons_of_mem _ hq)
end Dl

/-! The D-layer, part 17: rows along points; the laws' tools. -/
namespace Dl
open PySem PySem.Spec
open PyProof.Rows L2
local macro_rules | `(tactic| walk_at "sd") => `(tactic| first | with_reducible assumption | omega | with_reducible rfl | decide | exact few_of (by decide) | exact divOk_small (by decide) (by decide +kernel) | exact mulOk_r (by omega) (by omega) | exact mulOk_l (by omega) (by omega) | exact few_of (by simp only [List.length_append, List.length_map, List.length_cons, List.length_nil, tab_len, List.length_replicate]; omega))
theorem bnd_one {k : Nat} (h : k ≠ 0) : bnd k 1 := by unfold bnd; exact Nat.one_lt_two_pow h
theorem bnd_zero {k : Nat} : bnd k 0 := by unfold bnd; exact Nat.pow_pos (by decide)
end Dl

/-! The D-layer, part 18: rows that hold; the laws' tools. -/
namespace Dl
open PySem PySem.Spec
open PyProof.Rows L2
local macro_rules | `(tactic| walk_at "sd") => `(tactic| first | with_reducible assumption | omega | with_reducible rfl | decide | exact few_of (by decide) | exact divOk_small (by decide) (by decide +kernel) | exact mulOk_r (by omega) (by omega) | exact mulOk_l (by omega) (by omega) | exact few_of (by simp only [List.length_append, List.length_map, List.length_cons, List.length_nil, tab_len, List.length_replicate]; omega))
/-- whether a row holds at a point -/
def hld (rs : List Int) (b : Int) (ps : List (Int × Int)) : Bool := decide ((wsF rs ps 0 1).1 ≤ b * (wsF rs ps 0 1).2)
end Dl

/-! The D-layer, part 19: rooms; the laws' tools. -/
namespace Dl
open PySem PySem.Spec
open PyProof.Rows L2
local macro_rules | `(tactic| walk_at "sd") => `(tactic| first | with_reducible assumption | omega | with_reducible rfl | decide | exact few_of (by decide) | exact divOk_small (by decide) (by decide +kernel) | exact mulOk_r (by omega) (by omega) | exact mulOk_l (by omega) (by omega) | exact few_of (by simp only [List.length_append, List.length_map, List.length_cons, List.length_nil, tab_len, List.length_replicate]; omega))
theorem compL_gen {α : Type} {g : DG} {tt : TDb} {te : TD} {ρ : Env'} {Q : List D → Prop} (f : α → D) (R : α → Prop) (ds : List D)
    (h : ∀ d ∈ ds, ∀ (K1 : D → Prop) (K0 : Prop), (∀ a, R a → K1 (f a)) → g d ρ fun ρ2 => tt ρ2 (fun b => ifP b (te ρ2 K1 (fun _ => False)) K0) fun _ => False)
    (q : ∀ as : List α, as.length = ds.length → (∀ a ∈ as, R a) → Q (as.map f)) : compL g tt te ρ Q ds [] := by
  have go : ∀ (ds acc : List D), (∀ d ∈ ds, ∀ (K1 : D → Prop) (K0 : Prop), (∀ a, R a → K1 (f a)) → g d ρ fun ρ2 => tt ρ2 (fun b => ifP b (te ρ2 K1 (fun _ => False)) K0) fun _ => False) →
      (∀ as : List α, as.length = ds.length → (∀ a ∈ as, R a) → Q (acc ++ as.map f)) → compR g tt te ρ Q ds acc := by
    intro ds
    induction ds with
    | nil =>
      intro acc _ q
      have := q [] rfl (fun y hy => by cases hy)
      rw [List.map_nil, List.append_nil] at this
      exact this
    | cons d ds ih =>
      intro acc h q
      refine h d List.mem_cons_self _ _ fun y hy => ih _ (fun e he => h e (List.mem_cons_of_mem _ he)) fun as hl hp => ?_
      rw [List.append_assoc]
      exact q (y :: as) (by rw [List.length_cons, List.length_cons, hl]) fun z hz => by
        rcases List.mem_cons.mp hz with rfl | hz
        · exact hy
        · exact hp z hz
  exact ⟨go ds [] h fun as hl hp => q as hl hp⟩
abbrev g__law_stream : DF := fun ds Q _ => ∃ (c : Int) (m : Nat), ds = [.int c, .int m] ∧ m ≤ 1000 ∧ ∀ X : Nat → Int, (∀ j, 0 ≤ X j ∧ X j < 10 ^ 45) → Q (.lst (tabD m X))
abbrev N__law_stream : List Str := ["_law_cell", "_law_many", "_law_found", "_law_rest", "_law_k", "_law_number_here"]
def tb__law_stream : DS :=
  (dSq (dOwn 2 (dLstN dNil)) (dSq (dIf (dTest (dOp kGe (dVarP 0) (dOp kPow (dC (.int 10)) (dC (.int 30))))) (dSq (dSet 3 (dOp kSub (dVarP 0) (dOp kPow (dC (.int 10)) (dC (.int 30))))) (dSq (dFor (dRng1 (dVarP 1)) (gNm 4) (dSq (dApp 2 (dOp kMod (dVarP 3) (dOp kPow (dC (.int 10)) (dC (.int 45))))) (dSet 3 (dOp kDiv (dVarP 3) (dOp kPow (dC (.int 10)) (dC (.int 45))))))) (dFrz 2 (dRet (dVar 2))))) dNext) (dSq (dSet 5 (dOp kAdd (dOp kMod (dVarP 0) (dOp kAdd (dOp kPow (dC (.int 10)) (dC (.int 18))) (dC (.int 9)))) (dC (.int 48271)))) (dSq (dFor (dRng1 (dOp kAdd (dVarP 1) (dC (.int 2)))) (gNm 4) (dSq (dSet 5 (dOp kMod (dOp kAdd (dOp kAdd (dOp kMul (dVarP 5) (dVarP 5)) (dOp kMul (dC (.int 48271)) (dVarP 5))) (dVarP 4)) (dOp kAdd (dOp kPow (dC (.int 10)) (dC (.int 18))) (dC (.int 9))))) (dApp 2 (dVar 5)))) (dRet (dSl (dVarP 2) (dPart (dC (.int 2))) dNoPart))))))
theorem stream_a {d : DE} {a b : Sl} {M : Nat} : ∀ (t k i : Nat) (F : Nat → Int) (rest : Int) (s4 : Sl), M ≤ 1000 → k + t = M → (∀ j, 0 ≤ F j ∧ F j < 10 ^ 45) →
    (∀ (F : Nat → Int) (s3 s4 : Sl), (∀ j, 0 ≤ F j ∧ F j < 10 ^ 45) → d.nx [a, b, .ow (tabD M F), s3, s4, .no]) →
    loopD (gNm 4) (dSq (dApp 2 (dOp kMod (dVarP 3) (dOp kPow (dC (.int 10)) (dC (.int 45))))) (dSet 3 (dOp kDiv (dVarP 3) (dOp kPow (dC (.int 10)) (dC (.int 45)))))) d (irg i t) [a, b, .ow (tabD k F), .sh (.int rest), s4, .no]
  | 0, k, i, F, rest, s4, hM, hk, hF, h => by
    have e : k = M := by omega
    subst e
    exact lp_r0 (h F _ _ hF)
  | t + 1, k, i, F, rest, s4, hM, hk, hF, h => by
    refine lp_rs ?_
    walk_at "rd"
    walk_at "go"
    rw [tab_snoc]
    walk_at "go"
    refine stream_a t (k + 1) (i + 1) _ _ _ hM (by omega) (fun j => ?_) h
    by_cases hj : j = k
    · rw [if_pos hj]
      exact ⟨Int.fmod_nonneg_of_pos _ (by omega), Int.fmod_lt_of_pos _ (by omega)⟩
    · rw [if_neg hj]; exact hF j

theorem stream_b {d : DE} {a b s3 : Sl} {M : Nat} : ∀ (t k i : Nat) (F : Nat → Int) (x : Int) (s4 : Sl), M ≤ 2000 → i + t ≤ 2000 → k + t = M → (0 ≤ x ∧ x < 2 * 10 ^ 18) → (∀ j, 0 ≤ F j ∧ F j < 10 ^ 45) →
    (∀ (F : Nat → Int) (s4 s5 : Sl), (∀ j, 0 ≤ F j ∧ F j < 10 ^ 45) → d.nx [a, b, .ow (tabD M F), s3, s4, s5]) →
    loopD (gNm 4) (dSq (dSet 5 (dOp kMod (dOp kAdd (dOp kAdd (dOp kMul (dVarP 5) (dVarP 5)) (dOp kMul (dC (.int 48271)) (dVarP 5))) (dVarP 4)) (dOp kAdd (dOp kPow (dC (.int 10)) (dC (.int 18))) (dC (.int 9))))) (dApp 2 (dVar 5))) d (irg i t) [a, b, .ow (tabD k F), s3, s4, .sh (.int x)]
  | 0, k, i, F, x, s4, hM, hi, hk, hx, hF, h => by
    have e : k = M := by omega
    subst e
    exact lp_r0 (h F _ _ hF)
  | t + 1, k, i, F, x, s4, hM, hi, hk, hx, hF, h => by
    refine lp_rs ?_
    walk_at "rd"
    have hb : bnd 64 x := by
      have : (2 : Int) * 10 ^ 18 ≤ 2 ^ 64 := by decide
      unfold bnd
      have h2 : ((x.natAbs : Nat) : Int) < ((2 ^ 64 : Nat) : Int) := by
        rw [Int.natAbs_of_nonneg hx.1]
        have : ((2 ^ 64 : Nat) : Int) = 2 ^ 64 := by decide
        omega
      omega
    have xx := mulOk_le (bits_of hb) (bits_of hb) (by omega)
    walk_at "go"
    rw [tab_snoc]
    walk_at "go"
    have hp : (0 : Int) < 1000000000000000009 := by omega
    have m1 := Int.fmod_nonneg_of_pos (x * x + 48271 * x + i) hp
    have m2 := Int.fmod_lt_of_pos (x * x + 48271 * x + i) hp
    refine stream_b t (k + 1) (i + 1) _ _ _ hM (by omega) (by omega) ⟨m1, by omega⟩ (fun j => ?_) h
    by_cases hj : j = k
    · rw [if_pos hj]; exact ⟨m1, by omega⟩
    · rw [if_neg hj]; exact hF j
theorem cut_2 (m : Nat) (F : Nat → Int) : cut (tabD (m + 2) F) (some 2) none = tabD m fun j => F (j + 2) := by
  unfold cut
  rw [tab_len, HT.sIx_none, show (2 : Int) = ((2 : Nat) : Int) from rfl, HT.sIx_nat, show min 2 (m + 2) = 2 by omega, show m + 2 - 2 = m by omega]
  refine List.ext_getElem? fun i => ?_
  by_cases hi : i < m
  · rw [tab_get hi, List.getElem?_take_of_lt hi, List.getElem?_drop, tab_get (by omega), Nat.add_comm]
  · rw [List.getElem?_eq_none (by rw [List.length_take, List.length_drop, tab_len]; omega), List.getElem?_eq_none (by rw [tab_len]; omega)]
theorem rd__law_stream (ds : List D) (Q E : EQ) (_ : ds.length = 2) (h : g__law_stream ds Q E) : tb__law_stream (dE Q E) (startD N__law_stream ds) := by
  obtain ⟨c, m, rfl, hm, q⟩ := h
  unfold tb__law_stream dE
  walk_at "go"
  have t0 : ∀ G : Nat → Int, ([] : List D) = tabD 0 G := fun _ => rfl
  by_cases hc : (1000000000000000000000000000000 : Int) ≤ c
  · rw [decide_eq_true hc]
    walk_at "go"
    rw [t0 (fun _ => 0), Int.toNat_natCast]
    refine stream_a (M := m) m 0 0 _ _ _ (by omega) (by omega) (fun _ => ⟨by omega, by omega⟩) fun F s3 s4 hF => ?_
    walk_at "rd"
    exact q F hF
  · rw [decide_eq_false hc]
    walk_at "go"
    rw [t0 (fun _ => 0), show ((m : Int) + 2).toNat = m + 2 by omega]
    have hp : (0 : Int) < 1000000000000000009 := by omega
    have m1 := Int.fmod_nonneg_of_pos c hp
    have m2 := Int.fmod_lt_of_pos c hp
    refine stream_b (M := m + 2) (m + 2) 0 0 _ _ _ (by omega) (by omega) (by omega) ⟨by omega, by omega⟩ (fun _ => ⟨by omega, by omega⟩) fun F s4 s5 hF => ?_
    walk_at "rd"
    rw [cut_2]
    exact q _ fun j => hF (j + 2)
end Dl

/-! The D-layer, part 20: the laws' own sum along a point. -/
namespace Dl
open PySem PySem.Spec
open PyProof.Rows L2
local macro_rules | `(tactic| walk_at "sd") => `(tactic| first | with_reducible assumption | omega | with_reducible rfl | decide | exact few_of (by decide) | exact divOk_small (by decide) (by decide +kernel) | exact mulOk_r (by omega) (by omega) | exact mulOk_l (by omega) (by omega) | exact few_of (by simp only [List.length_append, List.length_map, List.length_cons, List.length_nil, tab_len, List.length_replicate]; omega))
end Dl

/-! The D-layer, part 21: defs that hand back lists which are the caller's own. -/
namespace Dl
open PySem PySem.Spec
open PyProof.Rows L2
section
variable {X : Cx} {W : WX} {st : Stmt} {rest : List Stmt} {e a b c tg : Expr} {es : List Expr} {t ta tb tc : TD} {ts : TDs} {u v : DS} {pos : Pos}
/-- return [..] -/
def dRetN1 (t : TDs) : DS := fun d ρ => t ρ d.rt1 (d.ex ρ)
theorem rs_retN1 {tn : TDs} (h : RN X W e tn) : RS X W (.Return (some e) pos) (dRetN1 tn) := by
  obtain ⟨te, h1, h2⟩ := h.run
  exact ⟨_, ps_ret h1, fun F0 H0 ρ σ F H D d en c q => h2 ρ σ F H _ _ _ en.rl (c.ex ρ σ F H en) (fun ds p vs F1 H1 g np hp fp z r q => c.rt1 ds p F1 H1 (en.go.trans g) ⟨en.go.hh.free np, fp, vs, hp, z, r⟩ q) q⟩
end
/-! ### their promises -/
abbrev DF1 := List D → (List D → Prop) → EQ → Prop
def spO1 (K : PySem.W.Frag) (n : Nat) (G : DF1) : Sp := fun vs H Q E => ∃ (ds : List D) (F : Fz) (Q1 : List D → Prop) (Ed : EQ), Same F H ∧ Reps K F ds vs ∧ ds.length = n ∧ G ds Q1 Ed ∧
  (∀ ds p F' H', Go F H F' H' → OwL K F' H' H ds p → Q1 ds → Q (.ref p) H') ∧ (∀ x cls dx F' H', Go F H F' H' → XRep K F' H' x cls dx → Ed x → E cls dx H')
structure FO (P : Program) (w : World) (K : PySem.W.Frag) (mg : Str → Option Value) (base : Heap) (k : Nat) (f : Addr) (n : Nat) (sp : Sp) : Prop where
  ok : ∃ (fd : FuncData) (ps : List Str), FnOk P w K mg base (L2.CX P w) k f fd ps sp ∧ Binds K fd ps []
  kp : PySem.W.keepIn K (.ref f) = true
abbrev dE1 (Q : List D → Prop) (E : EQ) : DE := ⟨fun _ => False, fun _ => False, fun _ => False, fun _ => False, fun _ => E, Q, fun _ _ => False⟩
theorem def_ok1 {P : Program} {w : World} {K : PySem.W.Frag} {mg : Str → Option Value} {base : Heap} {name qual : Str} {st : Stmt} {f : Addr} {N ps : List Str} {k n : Nat} {G : DF1} {tb : DS} {oc dV kV doc pm cdv ct : Value} {od an : Option Addr} {osl : Array (Option Value)}
    (lk : K.lookup f = some ⟨oc, od, .func (PySem.W.fnOf name qual (defArgs st) (defBody st) (defScope st) dV kV doc pm an cdv ct), osl⟩) (hcd : PySem.W.codeIn K cdv qual = true) (S : FnScope N ps (defScope st)) (hn : ps.length = n)
    (body : ∀ (cdv : Value) (A : Around) (outer : List Env) (s : Shared) (H : Hp) (E : XK), Room k (A.deeper (envOfC qual (defScope st) s.heap.objs.size f cdv)) → RSs (cxOf (L2.CX P w) P w K mg base N qual (defScope st) f cdv A outer s H E) (WF E) (defBody st) tb)
    (read : ∀ ds Q E, ds.length = n → G ds Q E → tb (dE1 Q E) (startD N ds)) :
    FnOk P w K mg base (L2.CX P w) (k + 1) f (PySem.W.fnOf name qual (defArgs st) (defBody st) (defScope st) dV kV doc pm an cdv ct) ps (spO1 K n G) := by
  refine fn_of lk hcd S (fun vs H Q E h => ?_) fun A outer s H vs Q E hr h => ?_
  · obtain ⟨ds, F, Qd, Ed, _, r, hl, _⟩ := h
    rw [r.length, hl, hn]
  · obtain ⟨ts, h1, h2⟩ := (body cdv A outer s H E hr).run
    refine ⟨ts, h1, ?_⟩
    obtain ⟨ds, F1, Qd, Ed, sf, r, hl, g, k1, k2⟩ := h
    have rl := start_rl (N := N) sf r
    refine h2 F1 H (startD N ds) _ F1 H _ (dE1 Qd Ed) ⟨rl, .refl sf, fun i s p h o hs => ?_⟩ ⟨fun _ _ _ _ _ q => q.elim, fun _ _ _ _ _ _ q => q.elim, fun _ _ _ _ _ q => q.elim, fun _ _ _ _ _ q => q.elim, fun ρ σ F' H' e x cls dx F2 H2 g r q => k2 x cls dx F2 H2 (e.go.trans g) r q, fun ds p F' H' g o q => k1 ds p F' H' g o q, fun _ _ _ _ _ _ _ _ _ _ _ _ q => q.elim⟩ (read ds Qd Ed hl g)
    exact absurd o (start_own h)
/-! ### their calls -/
section
variable {X : Cx} {W : WX} {e : Expr} {es : List Expr} {ts : TDs} {pos : Pos}
end
end Dl

/-! The D-layer, part 22: lists of one's own, lent for a call. -/
namespace Dl
open PySem PySem.Spec
open PyProof.Rows L2
/-- what a def may know while it is lent the lists at ls -/
def lendH (F : Hp) (H : Hp) (ls : List Addr) : Hp := fun b => match F b with
  | some o => some o
  | none => if b ∈ ls then H b else none
def lendF (F : Fz) (H : Hp) (ls : List Addr) : Fz := ⟨lendH F.h H ls, F.j, fun b h => by
  obtain ⟨vs, z⟩ := F.wl b h
  exact ⟨vs, by unfold lendH; rw [z]⟩, fun b h => F.wf b (by
  unfold lendH at h
  cases hb : F.h b with
  | none => rfl
  | some o => rw [hb] at h; cases h)⟩
theorem lendF_h (F : Fz) (H : Hp) (ls : List Addr) (b : Addr) : (lendF F H ls).h b = lendH F.h H ls b := rfl
/-- and what is known behind it -/
def backH (F F' : Hp) (ls : List Addr) : Hp := fun b => match F b with
  | some o => some o
  | none => if b ∈ ls then none else F' b
def tgOf : Option HO → Tg → Tg
  | none, _ => .a
  | some (.lst _), t => t
  | some _, .j => .a
  | some _, t => t
theorem tgOf_j {o : Option HO} {t : Tg} (h : tgOf o t = .j) : ∃ vs, o = some (.lst vs) := by
  cases o with
  | none => cases h
  | some o => cases o <;> first | exact ⟨_, rfl⟩ | (cases t <;> cases h)
def backF (F F' : Fz) (ls : List Addr) : Fz := ⟨backH F.h F'.h ls, fun b => tgOf (backH F.h F'.h ls b) (F'.j b), fun b h => tgOf_j h, fun b h => by rw [h]; rfl⟩
theorem backF_h (F F' : Fz) (ls : List Addr) (b : Addr) : (backF F F' ls).h b = backH F.h F'.h ls b := rfl
mutual
def D.tupy : D → Bool
  | .non => true
  | .bl _ => true
  | .int _ => true
  | .str _ => true
  | .tup ds => D.tupys ds
  | _ => false
def D.tupys : List D → Bool
  | [] => true
  | d :: ds => d.tupy && D.tupys ds
end
theorem back_seq {F : Fz} {H : Hp} {F' : Fz} {ls : List Addr} {a : Addr} {xs : List V} (hl : ∀ b ∈ ls, ∃ xs, H b = some (.lst xs)) (ff : SameF (lendF F H ls) F') (h : F' a = some (.tup xs)) : backF F F' ls a = some (.tup xs) := by
  · skip
    have key : backF F F' ls a = F' a ∨ ∃ ys, F' a = some (.lst ys) := by
      rw [backF_h]; unfold backH
      cases hb : F a with
      | some o => exact .inl (by dsimp only; exact ((ff.s a o (by rw [lendF_h]; unfold lendH; rw [hb])).symm))
      | none =>
        dsimp only
        by_cases hv : a ∈ ls
        · obtain ⟨ys, hy⟩ := hl a hv
          exact .inr ⟨ys, ff.s a _ (by rw [lendF_h]; unfold lendH; rw [hb]; dsimp only; rw [if_pos hv]; exact hy)⟩
        · rw [if_neg hv]; exact .inl rfl
    rcases key with k | ⟨ys, k⟩
    · rw [k]; exact h
    · rw [k] at h; cases h
mutual
theorem back_rep {K : PySem.W.Frag} {F : Fz} {H : Hp} {F' : Fz} {ls : List Addr} (hl : ∀ b ∈ ls, ∃ xs, H b = some (.lst xs)) (ff : SameF (lendF F H ls) F') : ∀ {d : D} {v : V}, d.tupy = true → Rep K F' d v → Rep K (backF F F' ls) d v
  | _, _, _, .non => .non
  | _, _, _, .bl b => .bl b
  | _, _, _, .int i => .int i
  | _, _, _, .str x => .str x
  | _, _, h, .tup s l r => .tup (back_seq hl ff s) l (back_reps hl ff (by unfold D.tupy at h; exact h) r)
  | _, _, h, .ty _ => by unfold D.tupy at h; cases h
  | _, _, h, .cls _ => by unfold D.tupy at h; cases h
  | _, _, h, .ob _ => by unfold D.tupy at h; cases h
  | _, _, h, .lst .. => by unfold D.tupy at h; cases h
  | _, _, h, .mu .. => by unfold D.tupy at h; cases h
  | _, _, h, .frl .. => by unfold D.tupy at h; cases h
  | _, _, h, .ins .. => by unfold D.tupy at h; cases h
  | _, _, h, .dic .. => by unfold D.tupy at h; cases h
theorem back_reps {K : PySem.W.Frag} {F : Fz} {H : Hp} {F' : Fz} {ls : List Addr} (hl : ∀ b ∈ ls, ∃ xs, H b = some (.lst xs)) (ff : SameF (lendF F H ls) F') : ∀ {ds : List D} {vs : List V}, D.tupys ds = true → Reps K F' ds vs → Reps K (backF F F' ls) ds vs
  | _, _, _, .nil => .nil
  | _, _, h, .cons r rs => by
    unfold D.tupys at h
    rw [Bool.and_eq_true] at h
    exact .cons (back_rep hl ff h.1 r) (back_reps hl ff h.2 rs)
end
section
variable {X : Cx} {W : WX} {e : Expr} {es : List Expr} {ts : TDs} {pos : Pos}
end
end Dl

/-! The D-layer, part 23: a + b as a list of one's own; tuples of ints compared; rows added. -/
namespace Dl
open PySem PySem.Spec
open PyProof.Rows L2
section
variable {X : Cx} {W : WX}
end
theorem eqv_ints : ∀ xs ys : List Int, PyData.eqvAll (D.pys (xs.map .int)) (D.pys (ys.map .int)) = decide (xs = ys)
  | [], [] => by unfold D.pys PyData.eqvAll; rfl
  | [], y :: ys => by unfold D.pys PyData.eqvAll; rfl
  | x :: xs, [] => by unfold D.pys PyData.eqvAll; rfl
  | x :: xs, y :: ys => by
    rw [List.map_cons, List.map_cons]
    unfold D.pys PyData.eqvAll
    rw [eqv_ints xs ys]
    unfold D.py PyData.eqv
    by_cases h : x = y
    · subst h
      by_cases h2 : xs = ys
      · subst h2; simp
      · simp [h2]
    · simp [h]
theorem eqv_lst (xs ys : List Int) : PyData.eqv (D.lst (xs.map .int)).py (D.lst (ys.map .int)).py = decide (xs = ys) := by
  unfold D.py PyData.eqv
  exact eqv_ints xs ys
end Dl

/-! The D-layer, part 24: x[i] = [..]; x[i][j] = e, the inner list new. -/
namespace Dl
open PySem PySem.Spec
open PyProof.Rows L2
section
variable {X : Cx} {W : WX} {rest : List Stmt} {e a1 a2 a3 c : Expr} {t1 t2 t3 te : TD} {tn : TDs} {u : DS}
end
end Dl

/-! The D-layer, part 25: loops and comprehensions by place; rows brought to steps. -/
namespace Dl
open PySem PySem.Spec
open PyProof.Rows L2
section
variable {g : DG} {tb : DS} {d : DE}
end
section
variable {g : DG} {tt : TDb} {te : TD} {ρ : Env'} {Q : List D → Prop}
end
theorem rng_get {α : Type} {m : Nat} {f : Nat → α} {k : Nat} (h : k < m) : ((List.range m).map f)[k]? = some (f k) := by
  rw [List.getElem?_map, List.getElem?_range h]; rfl
theorem rng_inv {α : Type} {m : Nat} {f : Nat → α} {k : Nat} {x : α} (h : ((List.range m).map f)[k]? = some x) : k < m ∧ x = f k := by
  have hl := (List.getElem?_eq_some_iff.mp h).1
  rw [List.length_map, List.length_range] at hl
  rw [rng_get hl] at h
  exact ⟨hl, (Option.some.inj h).symm⟩
theorem rng_len {α : Type} {m : Nat} {f : Nat → α} : ((List.range m).map f).length = m := by rw [List.length_map, List.length_range]
theorem tab_inv {m : Nat} {F : Nat → Int} {k : Nat} {x : D} (h : (tabD m F)[k]? = some x) : k < m ∧ x = .int (F k) := rng_inv h
/-! ### rows: what divides all, lowest form, sums -/
def gcdL (r : Nat → Int) : Nat → Int
  | 0 => 0
  | m + 1 => (Int.gcd (r m) (gcdL r m) : Int)
def lowR (m : Nat) (r : Nat → Int) : Nat → Int := fun j => if gcdL r m = 0 then r j else (r j).fdiv (gcdL r m)
def dot (r y : Nat → Int) : Nat → Int
  | 0 => 0
  | n + 1 => dot r y n + r n * y n
theorem gcdL_nn (r : Nat → Int) : ∀ m, 0 ≤ gcdL r m
  | 0 => Int.le_refl _
  | m + 1 => Int.natCast_nonneg _
theorem gcdL_dvd (r : Nat → Int) : ∀ m j, j < m → gcdL r m ∣ r j
  | m + 1, j, h => by
    by_cases e : j = m
    · subst e; exact Int.gcd_dvd_left ..
    · exact Int.dvd_trans (Int.gcd_dvd_right ..) (gcdL_dvd r m j (by omega))
/-- the lowest form, times what divides all, is the row -/
theorem lowR_eq (m : Nat) (r : Nat → Int) : ∃ g : Int, 0 < g ∧ ∀ j, j < m → r j = g * lowR m r j := by
  unfold lowR
  by_cases h : gcdL r m = 0
  · exact ⟨1, by decide, fun j hj => by rw [if_pos h, Int.one_mul]⟩
  · refine ⟨gcdL r m, by have := gcdL_nn r m; omega, fun j hj => ?_⟩
    rw [if_neg h]
    obtain ⟨c, hc⟩ := gcdL_dvd r m j hj
    rw [hc, Int.mul_fdiv_cancel_left _ h]
theorem lowR_bnd {k m : Nat} {r : Nat → Int} (h : ∀ j, bnd k (r j)) (j : Nat) : bnd k (lowR m r j) := by
  unfold lowR
  by_cases e : gcdL r m = 0
  · rw [if_pos e]; exact h j
  · rw [if_neg e]
    exact bnd_le (fdiv_le (by have := gcdL_nn r m; omega)) (h j)
theorem dot_congr {r s y : Nat → Int} : ∀ {n : Nat}, (∀ j, j < n → r j = s j) → dot r y n = dot s y n
  | 0, _ => rfl
  | n + 1, h => by unfold dot; rw [dot_congr (fun j hj => h j (by omega)), h n (by omega)]
theorem dot_congr_r {r y z : Nat → Int} : ∀ {n : Nat}, (∀ j, j < n → y j = z j) → dot r y n = dot r z n
  | 0, _ => rfl
  | n + 1, h => by unfold dot; rw [dot_congr_r (fun j hj => h j (by omega)), h n (by omega)]
theorem dot_mul (a : Int) (r y : Nat → Int) : ∀ n, dot (fun j => a * r j) y n = a * dot r y n
  | 0 => by unfold dot; rw [Int.mul_zero]
  | n + 1 => by unfold dot; rw [dot_mul a r y n]; grind
theorem dot_mul_r (a : Int) (r y : Nat → Int) : ∀ n, dot r (fun j => a * y j) n = a * dot r y n
  | 0 => by unfold dot; rw [Int.mul_zero]
  | n + 1 => by unfold dot; rw [dot_mul_r a r y n]; grind
theorem dot_sub (a b : Int) (r s y : Nat → Int) : ∀ n, dot (fun j => r j * a - s j * b) y n = a * dot r y n - b * dot s y n
  | 0 => by unfold dot; omega
  | n + 1 => by unfold dot; rw [dot_sub a b r s y n]; grind
theorem dot_zero {r y : Nat → Int} : ∀ {n : Nat}, (∀ j, j < n → r j * y j = 0) → dot r y n = 0
  | 0, _ => rfl
  | n + 1, h => by unfold dot; rw [dot_zero (fun j hj => h j (by omega)), h n (by omega)]; rfl
/-- all but some places are nought -/
theorem dot_one {r y : Nat → Int} {p : Nat} : ∀ {n : Nat}, p < n → (∀ j, j < n → j ≠ p → r j * y j = 0) → dot r y n = r p * y p
  | n + 1, hp, h => by
    unfold dot
    by_cases e : p = n
    · subst e; rw [dot_zero (fun j hj => h j (by omega) (by omega)), Int.zero_add]
    · rw [dot_one (n := n) (by omega) (fun j hj hne => h j (by omega) hne), h n (by omega) (fun z => e z.symm), Int.add_zero]
theorem dot_low (m : Nat) (r y : Nat → Int) : dot (lowR m r) y m = 0 ↔ dot r y m = 0 := by
  obtain ⟨g, g0, h⟩ := lowR_eq m r
  rw [dot_congr (n := m) (s := fun j => g * lowR m r j) (r := r) h, dot_mul]
  constructor
  · intro e; rw [e, Int.mul_zero]
  · intro e; rcases Int.mul_eq_zero.mp e with z | z
    · omega
    · exact z
theorem low_zero {m : Nat} {r : Nat → Int} {j : Nat} (hj : j < m) : lowR m r j = 0 ↔ r j = 0 := by
  obtain ⟨g, g0, h⟩ := lowR_eq m r
  rw [h j hj]
  constructor
  · intro e; rw [e, Int.mul_zero]
  · intro e; rcases Int.mul_eq_zero.mp e with z | z
    · omega
    · exact z
/-! ### elimination -/
abbrev Mat := Nat → Nat → Int
def crR (w : Nat) (r s : Nat → Int) (p : Nat) : Nat → Int := lowR w (fun j => r j * s p - s j * r p)
def fwN (R : Mat) (p : Nat) : Nat → Nat → Option Nat
  | 0, _ => none
  | t + 1, a => if R a p = 0 then fwN R p t (a + 1) else some a
def swR (R : Mat) (a b : Nat) : Mat := fun k => if k = b then R a else if k = a then R b else R k
def elR (w m : Nat) (R : Mat) (a p : Nat) : Mat := fun k => if k < m ∧ k ≠ a ∧ R k p ≠ 0 then crR w (R k) (R a) p else R k
def stepG (w m : Nat) (s : Mat × List Nat) (p : Nat) : Mat × List Nat :=
  match fwN s.1 p (m - s.2.length) s.2.length with
  | none => s
  | some k => (elR w m (swR s.1 s.2.length k) s.2.length p, s.2 ++ [p])
def redG (w m : Nat) (R : Mat) : Nat → Mat × List Nat
  | 0 => (fun k => lowR w (R k), [])
  | c + 1 => stepG w m (redG w m R c) c
theorem fwN_some {R : Mat} {p : Nat} : ∀ {t a k : Nat}, fwN R p t a = some k → a ≤ k ∧ k < a + t ∧ R k p ≠ 0
  | 0, a, k, h => by cases h
  | t + 1, a, k, h => by
    unfold fwN at h
    by_cases e : R a p = 0
    · rw [if_pos e] at h
      obtain ⟨h1, h2, h3⟩ := fwN_some h
      exact ⟨by omega, by omega, h3⟩
    · rw [if_neg e] at h
      cases h
      exact ⟨Nat.le_refl _, by omega, e⟩
theorem fwN_none {R : Mat} {p : Nat} : ∀ {t a : Nat}, fwN R p t a = none → ∀ k, a ≤ k → k < a + t → R k p = 0
  | 0, a, h, k, h1, h2 => by omega
  | t + 1, a, h, k, h1, h2 => by
    unfold fwN at h
    by_cases e : R a p = 0
    · rw [if_pos e] at h
      by_cases ek : k = a
      · subst ek; exact e
      · exact fwN_none h k (by omega) (by omega)
    · rw [if_neg e] at h
      cases h
/-- where a vector is put to nought by all rows -/
def Kn (w m : Nat) (R : Mat) (y : Nat → Int) : Prop := ∀ k, k < m → dot (R k) y w = 0
theorem kn_sw {w m : Nat} {R : Mat} {a b : Nat} (ha : a < m) (hb : b < m) (y : Nat → Int) : Kn w m (swR R a b) y ↔ Kn w m R y := by
  have e : ∀ k, swR R a b k = R (if k = b then a else if k = a then b else k) := fun k => by unfold swR; split; rfl; split <;> rfl
  constructor
  · intro h k hk
    by_cases k1 : k = a
    · have := h b hb; rw [e, if_pos rfl] at this; rw [k1]; exact this
    · by_cases k2 : k = b
      · have := h a ha
        rw [e] at this
        by_cases z : a = b
        · subst z; exact absurd k2 k1
        · rw [if_neg z, if_pos rfl] at this; rw [k2]; exact this
      · have := h k hk; rw [e, if_neg k2, if_neg k1] at this; exact this
  · intro h k hk
    rw [e]
    refine h _ ?_
    split
    · exact ha
    · split
      · exact hb
      · exact hk
theorem kn_el {w m : Nat} {R : Mat} {a p : Nat} (ha : a < m) (hp : R a p ≠ 0) (y : Nat → Int) : Kn w m (elR w m R a p) y ↔ Kn w m R y := by
  have key : ∀ k, dot (R a) y w = 0 → (dot (crR w (R k) (R a) p) y w = 0 ↔ dot (R k) y w = 0) := fun k h0 => by
    unfold crR
    rw [dot_low, dot_sub, h0, Int.mul_zero, Int.sub_zero]
    constructor
    · intro e; rcases Int.mul_eq_zero.mp e with z | z
      · exact absurd z hp
      · exact z
    · intro e; rw [e, Int.mul_zero]
  have ea : elR w m R a p a = R a := by unfold elR; rw [if_neg (fun z => z.2.1 rfl)]
  constructor
  · intro h k hk
    have h0 := h a ha
    rw [ea] at h0
    by_cases c : k < m ∧ k ≠ a ∧ R k p ≠ 0
    · have := h k hk
      unfold elR at this
      rw [if_pos c] at this
      exact (key k h0).mp this
    · have := h k hk
      unfold elR at this
      rw [if_neg c] at this
      exact this
  · intro h k hk
    unfold elR
    split
    · exact (key k (h a ha)).mpr (h k hk)
    · exact h k hk
/-- what stands after c columns -/
structure Ech (w m c : Nat) (R0 R : Mat) (ps : List Nat) : Prop where
  len : ps.length ≤ m
  lt : ∀ q ∈ ps, q < c
  inc : ps.Pairwise (· < ·)
  piv : ∀ (i q : Nat), ps[i]? = some q → R i q ≠ 0 ∧ ∀ k, k < m → k ≠ i → R k q = 0
  out : ∀ q, q < c → q ∉ ps → ∀ k, ps.length ≤ k → k < m → R k q = 0
  kn : ∀ y, Kn w m R y ↔ Kn w m R0 y
def eb (b : Nat) : Nat → Nat
  | 0 => b
  | n + 1 => 2 * eb b n + 1
theorem eb_mono {b : Nat} : ∀ {n k : Nat}, n ≤ k → eb b n ≤ eb b k
  | n, 0, h => by cases Nat.le_zero.mp h; exact Nat.le_refl _
  | n, k + 1, h => by
    by_cases e : n = k + 1
    · subst e; exact Nat.le_refl _
    · have := eb_mono (b := b) (n := n) (k := k) (by omega)
      show _ ≤ 2 * eb b k + 1
      omega
theorem bnd_sub' {k : Nat} {x y : Int} (h1 : bnd k x) (h2 : bnd k y) : bnd (k + 1) (x - y) := by
  unfold bnd at *
  rw [Nat.pow_succ]
  omega
theorem crR_bnd {k w : Nat} {r s : Nat → Int} {p : Nat} (h1 : ∀ j, bnd k (r j)) (h2 : ∀ j, bnd k (s j)) (j : Nat) : bnd (2 * k + 1) (crR w r s p j) := by
  unfold crR
  refine lowR_bnd (fun j => ?_) j
  exact bnd_sub' (bnd_mono (bnd_mul (h1 j) (h2 p)) (by omega)) (bnd_mono (bnd_mul (h2 j) (h1 p)) (by omega))
theorem sw_bnd {k : Nat} {R : Mat} {a b : Nat} (h : ∀ i j, bnd k (R i j)) (i j : Nat) : bnd k (swR R a b i j) := by
  unfold swR
  split
  · exact h _ _
  · split <;> exact h _ _
theorem el_bnd {k w m : Nat} {R : Mat} {a p : Nat} (h : ∀ i j, bnd k (R i j)) (i j : Nat) : bnd (2 * k + 1) (elR w m R a p i j) := by
  unfold elR
  split
  · exact crR_bnd (h i) (h a) j
  · exact bnd_mono (h i j) (by omega)
theorem red_len (w m : Nat) (R : Mat) : ∀ c, (redG w m R c).2.length ≤ c
  | 0 => Nat.le_refl _
  | c + 1 => by
    unfold redG stepG
    have := red_len w m R c
    split
    · omega
    · rw [List.length_append, List.length_singleton]; omega
theorem red_bnd {b w m : Nat} {R : Mat} (h : ∀ i j, bnd b (R i j)) : ∀ c i j, bnd (eb b (redG w m R c).2.length) ((redG w m R c).1 i j)
  | 0, i, j => lowR_bnd (h i) j
  | c + 1, i, j => by
    have ih := red_bnd (w := w) (m := m) h c
    unfold redG stepG
    split
    · exact ih i j
    · rw [List.length_append, List.length_singleton]
      exact el_bnd (sw_bnd ih) i j
theorem red_ech {w m : Nat} {R0 : Mat} : ∀ {c : Nat}, c ≤ w → Ech w m c R0 (redG w m R0 c).1 (redG w m R0 c).2
  | 0, _ => ⟨Nat.zero_le _, (fun q h => nomatch h), List.Pairwise.nil, (fun i q h => nomatch h), (fun q h => absurd h (Nat.not_lt_zero q)), fun y =>
      ⟨fun h k hk => (dot_low w _ y).mp (h k hk), fun h k hk => (dot_low w _ y).mpr (h k hk)⟩⟩
  | c + 1, hc => by
    have ih := red_ech (w := w) (m := m) (R0 := R0) (c := c) (by omega)
    unfold redG stepG
    generalize redG w m R0 c = s at ih ⊢
    obtain ⟨R, ps⟩ := s
    dsimp only at ih ⊢
    cases hf : fwN R c (m - ps.length) ps.length with
    | none =>
      dsimp only
      refine ⟨ih.len, fun q h => Nat.lt_succ_of_lt (ih.lt q h), ih.inc, ih.piv, fun q hq hn k h1 h2 => ?_, ih.kn⟩
      by_cases e : q = c
      · subst e; exact fwN_none hf k h1 (by have := ih.len; omega)
      · exact ih.out q (by omega) hn k h1 h2
    | some k0 =>
      dsimp only
      obtain ⟨f1, f2, f3⟩ := fwN_some hf
      have hk0 : k0 < m := by have := ih.len; omega
      have ha : ps.length < m := by omega
      generalize hS : swR R ps.length k0 = S
      have sa : S ps.length = R k0 := by
        rw [← hS]; unfold swR
        by_cases e : ps.length = k0
        · rw [if_pos e, e]
        · rw [if_neg e, if_pos rfl]
      have so : ∀ k, k < ps.length → S k = R k := fun k hk => by rw [← hS]; unfold swR; rw [if_neg (by omega), if_neg (by omega)]
      have sg : ∀ k, ps.length ≤ k → k < m → ∃ k', ps.length ≤ k' ∧ k' < m ∧ S k = R k' := fun k h1 h2 => by
        rw [← hS]; unfold swR
        by_cases e1 : k = k0
        · rw [if_pos e1]; exact ⟨_, Nat.le_refl _, ha, rfl⟩
        · rw [if_neg e1]
          by_cases e2 : k = ps.length
          · rw [if_pos e2]; exact ⟨_, f1, hk0, rfl⟩
          · rw [if_neg e2]; exact ⟨k, h1, h2, rfl⟩
      have sp : S ps.length c ≠ 0 := by rw [sa]; exact f3
      have ea : elR w m S ps.length c ps.length = S ps.length := by unfold elR; rw [if_neg (fun z => z.2.1 rfl)]
      -- a place where the pivot row has nothing
      have stay : ∀ k q, q < w → S ps.length q = 0 → (elR w m S ps.length c k q = 0 ↔ S k q = 0) := fun k q hq h0 => by
        unfold elR
        split
        · unfold crR
          rw [low_zero hq, h0, Int.zero_mul, Int.sub_zero]
          constructor
          · intro e; rcases Int.mul_eq_zero.mp e with z | z
            · exact z
            · exact absurd z sp
          · intro e; rw [e, Int.zero_mul]
        · exact Iff.rfl
      refine ⟨by rw [List.length_append, List.length_singleton]; omega, fun q h => ?_, ?_, fun i q hi => ?_, fun q hq hn k h1 h2 => ?_, fun y => ?_⟩
      · rcases List.mem_append.mp h with z | z
        · exact Nat.lt_succ_of_lt (ih.lt q z)
        · rw [List.mem_singleton.mp z]; exact Nat.lt_succ_self _
      · rw [List.pairwise_append]
        exact ⟨ih.inc, List.pairwise_singleton .., fun a h b hb => by rw [List.mem_singleton.mp hb]; exact ih.lt a h⟩
      · by_cases hlt : i < ps.length
        · rw [List.getElem?_append_left hlt] at hi
          obtain ⟨p1, p2⟩ := ih.piv i q hi
          have hqc : q < c := ih.lt q (List.mem_of_getElem? hi)
          have h0 : S ps.length q = 0 := by rw [sa]; exact p2 k0 hk0 (by omega)
          refine ⟨fun z => p1 ?_, fun k hk hne => (stay k q (by omega) h0).mpr ?_⟩
          · rw [← so i hlt]; exact (stay i q (by omega) h0).mp z
          · by_cases hk2 : k < ps.length
            · rw [so k hk2]; exact p2 k hk hne
            · obtain ⟨k', a1, a2, a3⟩ := sg k (by omega) hk
              rw [a3]; exact p2 k' a2 (by omega)
        · rw [List.getElem?_append_right (by omega)] at hi
          have hi0 : i = ps.length := by
            cases hz : i - ps.length with
            | zero => omega
            | succ n => rw [hz] at hi; cases hi
          subst hi0
          rw [Nat.sub_self] at hi
          cases hi
          refine ⟨by rw [ea]; exact sp, fun k hk hne => ?_⟩
          unfold elR
          by_cases z : S k c = 0
          · rw [if_neg (fun h => h.2.2 z)]; exact z
          · rw [if_pos ⟨hk, hne, z⟩]
            unfold crR
            rw [low_zero (by omega), Int.mul_comm, Int.sub_self]
      · rw [List.length_append, List.length_singleton] at h1
        have hqc : q ≠ c := fun z => hn (List.mem_append.mpr (.inr (List.mem_singleton.mpr z)))
        have hn' : q ∉ ps := fun z => hn (List.mem_append.mpr (.inl z))
        have h0 : S ps.length q = 0 := by rw [sa]; exact ih.out q (by omega) hn' k0 f1 hk0
        refine (stay k q (by omega) h0).mpr ?_
        obtain ⟨k', a1, a2, a3⟩ := sg k (by omega) h2
        rw [a3]
        exact ih.out q (by omega) hn' k' a1 a2
      · rw [kn_el ha sp, ← hS, kn_sw ha hk0]
        exact ih.kn y
/-! ### what the columns tell -/
theorem inc_lo : ∀ {ps : List Nat} {lo : Nat}, ps.Pairwise (· < ·) → (∀ q ∈ ps, lo ≤ q) → ∀ i q, ps[i]? = some q → lo + i ≤ q
  | [], lo, _, _, i, q, h => nomatch h
  | p :: ps, lo, hp, hl, 0, q, h => by cases h; exact hl p List.mem_cons_self
  | p :: ps, lo, hp, hl, i + 1, q, h => by
    have := inc_lo (lo := lo + 1) (List.pairwise_cons.mp hp).2 (fun q hq => by have := (List.pairwise_cons.mp hp).1 q hq; have := hl p List.mem_cons_self; omega) i q h
    omega
theorem inc_hi {n : Nat} : ∀ {ps : List Nat}, ps.Pairwise (· < ·) → (∀ q ∈ ps, q < n) → ∀ i q, ps[i]? = some q → q + (ps.length - i) ≤ n
  | [], _, _, i, q, h => nomatch h
  | p :: ps, hp, hl, 0, q, h => by
    cases h
    rw [List.length_cons]
    cases ps with
    | nil => have := hl p List.mem_cons_self; show p + 1 ≤ n; omega
    | cons r rs =>
      have h1 := inc_hi (List.pairwise_cons.mp hp).2 (fun q hq => hl q (List.mem_cons_of_mem _ hq)) 0 r rfl
      have h2 := (List.pairwise_cons.mp hp).1 r List.mem_cons_self
      omega
  | p :: ps, hp, hl, i + 1, q, h => by
    have := inc_hi (List.pairwise_cons.mp hp).2 (fun q hq => hl q (List.mem_cons_of_mem _ hq)) i q h
    rw [List.length_cons]
    omega
theorem inc_len {n : Nat} {ps : List Nat} (h1 : ps.Pairwise (· < ·)) (h2 : ∀ q ∈ ps, q < n) : ps.length ≤ n := by
  cases ps with
  | nil => exact Nat.zero_le _
  | cons p ps => have := inc_hi h1 h2 0 p rfl; omega
theorem inc_full {n : Nat} {ps : List Nat} (h1 : ps.Pairwise (· < ·)) (h2 : ∀ q ∈ ps, q < n) (h3 : ps.length = n) : ps = List.range n := by
  refine List.ext_getElem? fun i => ?_
  by_cases hi : i < n
  · rw [List.getElem?_range hi]
    cases hq : ps[i]? with
    | none => rw [List.getElem?_eq_none_iff] at hq; omega
    | some q =>
      have a := inc_lo (lo := 0) h1 (fun _ _ => Nat.zero_le _) i q hq
      have b := inc_hi h1 h2 i q hq
      congr 1
      omega
  · rw [List.getElem?_eq_none (by omega), List.getElem?_eq_none (by rw [List.length_range]; omega)]
theorem inc_gap {n : Nat} {ps : List Nat} (h1 : ps.Pairwise (· < ·)) (h2 : ∀ q ∈ ps, q < n) (h3 : ps.length < n) : ∃ q, q < n ∧ q ∉ ps := by
  refine Classical.byContradiction fun h => ?_
  have h : ∀ q, q < n → q ∈ ps := fun q hq => Classical.byContradiction fun z => h ⟨q, hq, z⟩
  have key : ∀ i, i < ps.length → ps[i]? = some i := fun i => by
    induction i using Nat.strongRecOn with
    | _ i ih =>
      intro hi
      obtain ⟨k, hk⟩ := List.getElem?_of_mem (h i (by omega))
      have hkl := (List.getElem?_eq_some_iff.mp hk).1
      have := inc_lo (lo := 0) h1 (fun _ _ => Nat.zero_le _) k i hk
      by_cases e : k = i
      · rw [e] at hk; exact hk
      · have := ih k (by omega) hkl
        rw [hk] at this
        cases this
        exact absurd rfl e
  obtain ⟨k, hk⟩ := List.getElem?_of_mem (h ps.length h3)
  have hkl := (List.getElem?_eq_some_iff.mp hk).1
  have := key k hkl
  rw [hk] at this
  cases this
  exact absurd hkl (Nat.lt_irrefl _)
theorem idx_of {ps : List Nat} (hn : ps.Nodup) {i q : Nat} (h : ps[i]? = some q) : ps.idxOf q = i := by
  obtain ⟨hl, rfl⟩ := List.getElem?_eq_some_iff.mp h
  exact List.Nodup.idxOf_getElem hn i hl
theorem inc_nodup {ps : List Nat} (h : ps.Pairwise (· < ·)) : ps.Nodup := h.imp (fun h => Nat.ne_of_lt h)
end Dl

local macro_rules | `(tactic| walk_at "bx") => `(tactic| first | with_reducible assumption | (apply bnd_mul <;> walk_at "bx") | (apply bnd_addM <;> walk_at "bx") | (apply bnd_subM <;> walk_at "bx") | (apply bnd_negM <;> walk_at "bx") | exact bnd_lit (k := 8) (by decide) | exact bnd_lit (k := 64) (by decide) | (with_reducible (apply_assumption)))
local macro_rules | `(tactic| walk_at "bd") => `(tactic| first | with_reducible assumption | (apply bnd_mono; (walk_at "bx"); first | omega | decide))
/-! The D-layer, part 26: the program's rows and equations, read once. -/
namespace Dl
open PySem PySem.Spec
open PyProof.Rows L2
theorem bnd_addM {j k : Nat} {x y : Int} (h1 : bnd j x) (h2 : bnd k y) : bnd (max j k + 1) (x + y) := bnd_add (bnd_mono h1 (by omega)) (bnd_mono h2 (by omega))
theorem bnd_subM {j k : Nat} {x y : Int} (h1 : bnd j x) (h2 : bnd k y) : bnd (max j k + 1) (x - y) := bnd_sub' (bnd_mono h1 (by omega)) (bnd_mono h2 (by omega))
theorem bnd_negM {k : Nat} {x : Int} (h1 : bnd k x) : bnd k (-x) := by unfold bnd at *; omega
theorem bnd_lit {k : Nat} {x : Int} (h : x.natAbs < 2 ^ k) : bnd k x := h
local macro_rules | `(tactic| walk_at "sd") => `(tactic| first | with_reducible assumption | omega | with_reducible rfl | decide | exact few_of (by decide) | exact divOk_small (by decide) (by decide +kernel) | exact mulOk_r (by omega) (by omega) | exact mulOk_l (by omega) (by omega) | ((with_reducible apply mul_of); (walk_at "bx"); (walk_at "bx"); first | omega | decide) | exact few_of (by simp only [List.length_append, List.length_map, List.length_cons, List.length_nil, tab_len, List.length_replicate]; omega))
/-- a row of so many places -/
def rowW (w : Nat) (r : Nat → Int) : D := .tup (tabD w r)
end Dl

/-! The D-layer, part 27: reduced, solution, solved. -/
namespace Dl
open PySem PySem.Spec
open PyProof.Rows L2
local macro_rules | `(tactic| walk_at "sd") => `(tactic| first | with_reducible assumption | omega | with_reducible rfl | exact (rfl : (_ : Bool) = true) | decide | exact few_of (by decide) | exact divOk_small (by decide) (by decide +kernel) | exact mulOk_r (by omega) (by omega) | exact mulOk_l (by omega) (by omega) | ((with_reducible apply mul_of); (walk_at "bx"); (walk_at "bx"); first | omega | decide) | exact few_of (by simp only [List.length_append, List.length_map, List.length_cons, List.length_nil, tab_len, List.length_replicate]; omega))
end Dl

/-! The D-layer, part 28: solution, solved. -/
namespace Dl
open PySem PySem.Spec
open PyProof.Rows L2
local macro_rules | `(tactic| walk_at "sd") => `(tactic| first | with_reducible assumption | omega | with_reducible rfl | exact (rfl : (_ : Bool) = true) | decide | exact few_of (by decide) | exact divOk_small (by decide) (by decide +kernel) | exact mulOk_r (by omega) (by omega) | exact mulOk_l (by omega) (by omega) | ((with_reducible apply mul_of); (walk_at "bx"); (walk_at "bx"); first | omega | decide) | exact few_of (by simp only [List.length_append, List.length_map, List.length_cons, List.length_nil, tab_len, List.length_replicate]; omega))
def xG (R : Mat) (c : Nat) (ps : List Nat) (q : Nat) : Int × Int := if q ∈ ps then (R (ps.idxOf q) c, R (ps.idxOf q) q) else (0, 1)
def badG (m c : Nat) (R : Mat) (n : Nat) : Bool := (List.range m).any fun k => decide (n ≤ k) && decide (R k c ≠ 0)
def solN (m c : Nat) (R : Mat) : Option (List (Int × Int) × Nat) :=
  if badG m c (redG (c + 1) m R c).1 (redG (c + 1) m R c).2.length then none else some ((List.range c).map (xG (redG (c + 1) m R c).1 c (redG (c + 1) m R c).2), (redG (c + 1) m R c).2.length)
end Dl

/-! The D-layer, part 29: is_fraction; the law's rows along points. -/
namespace Dl
open PySem PySem.Spec
open PyProof.Rows L2
local macro_rules | `(tactic| walk_at "sd") => `(tactic| first | with_reducible assumption | omega | with_reducible rfl | exact (rfl : (_ : Bool) = true) | decide | exact few_of (by decide) | exact divOk_small (by decide) (by decide +kernel) | exact mulOk_r (by omega) (by omega) | exact mulOk_l (by omega) (by omega) | ((with_reducible apply mul_of); (walk_at "bx"); (walk_at "bx"); first | omega | decide) | exact few_of (by simp only [List.length_append, List.length_map, List.length_cons, List.length_nil, tab_len, List.length_replicate]; omega))
/-- a fraction's parts -/
theorem fr_neg {t b : Int} (hb : b < 0) : fr t b = fr (-t) (-b) := by
  have key : ∀ z g : Int, z.fdiv (-g) = (-z).fdiv g := fun z g => by
    have := Int.neg_fdiv_neg (-z) g
    rw [Int.neg_neg] at this
    exact this
  unfold fr shr
  rw [if_pos hb, if_neg (by omega), Int.gcd_neg, Int.neg_gcd, key, key]
theorem fr_ex (t : Int) {b : Int} (hb : b ≠ 0) : ∃ u v : Int, fr t b = pr u v ∧ 0 < v ∧ u * b = t * v ∧ Int.gcd u v = 1 ∧ u.natAbs ≤ t.natAbs ∧ v.natAbs ≤ b.natAbs := by
  have pos : ∀ (t b : Int), 0 < b → ∃ u v : Int, fr t b = pr u v ∧ 0 < v ∧ u * b = t * v ∧ Int.gcd u v = 1 ∧ u.natAbs ≤ t.natAbs ∧ v.natAbs ≤ b.natAbs := fun t b h0 => by
    obtain ⟨s, u, v, s0, v0, e1, e2, c, d1, d2⟩ := fr_parts t h0
    refine ⟨u, v, by unfold fr; rw [d1, d2], v0, by rw [e1, e2]; ac_rfl, c, ?_, ?_⟩
    · rw [← d1]; exact fdiv_le (shr_ge h0)
    · rw [← d2]; exact fdiv_le (shr_ge h0)
  by_cases h0 : 0 < b
  · exact pos t b h0
  · obtain ⟨u, v, e, v0, h1, h2, h3, h4⟩ := pos (-t) (-b) (by omega)
    exact ⟨u, v, by rw [fr_neg (by omega), e], v0, by grind, h2, by omega, by omega⟩
/-! ### rows along points, by the law's way -/
def okX (B n : Nat) (x : Nat → Int × Int) : Prop := ∀ k, k < n → 0 < (x k).2 ∧ bnd B (x k).1 ∧ bnd B (x k).2
end Dl

/-! The D-layer, part 30: a, b = a list or a tuple. -/
namespace Dl
open PySem PySem.Spec
open PyProof.Rows L2
section
variable {X : Cx} {es : List Expr} {pos : Pos}
theorem pg_or {e : Expr} {t t' : TG} (h : PG X e t) (h' : PG X e t') : PG X e (fun v σ H Q => t v σ H Q ∨ t' v σ H Q) :=
  ⟨fun pins s σ H v u Q I r q => q.elim (fun q => h.run pins s σ H v u Q I r q) fun q => h'.run pins s σ H v u Q I r q⟩
def gTq (n : Nat) (u : List D → Env' → (Env' → Prop) → Prop) : DG := fun d ρ Q => match d with
  | .tup ds => ds.length = n ∧ u ds ρ Q
  | .lst ds => ds.length = n ∧ u ds ρ Q
  | .frl ds => ds.length = n ∧ u ds ρ Q
  | .mu ds => ds.length = n ∧ u ds ρ Q
  | _ => False
theorem rg_tuq {k n : Nat} {js : List Nat} {u : List D → Env' → (Env' → Prop) → Prop} (h : RGs X es js u) (hc : X.calm = true := by rfl) (hn : (assignEach es X.env).length = n := by rfl) (hst : (assignEach es X.env).findIdx? (·.1) = none := by rfl) : RG X (.Tuple es k pos) js (gTq n u) := by
  obtain ⟨g1, h1, h2⟩ := h.run
  refine ⟨_, pg_or (pg_tup hc h1 hn hst) (pg_lst hc h1 hn hst), fun ρ σ F H d v Qd Q hl e r kk q => ?_⟩
  cases d <;> first | exact False.elim q | skip
  · cases r with
    | tup s l r => exact .inl ⟨_, _, rfl, SqT.of (e _ _ s), by rw [r.length]; exact q.1, h2 ρ σ F H _ _ _ _ hl e r kk q.2⟩
  · cases r with
    | lst s _ l r => exact .inr ⟨_, _, rfl, SqL.of (e _ _ s), by rw [r.length]; exact q.1, h2 ρ σ F H _ _ _ _ hl e r kk q.2⟩
  · cases r with
    | frl s l r => exact .inr ⟨_, _, rfl, same_seqL e (same_seqL F.kh_same s), by rw [r.length]; exact q.1, h2 ρ σ F H _ _ _ _ hl e r kk q.2⟩
  · cases r with
    | mu s _ l r => exact .inr ⟨_, _, rfl, SqL.of (e _ _ s), by rw [r.length]; exact q.1, h2 ρ σ F H _ _ _ _ hl e r kk q.2⟩
end
end Dl

/-! The D-layer, part 31: try, except; classes made. -/
namespace Dl
open PySem PySem.Spec
open PyProof.Rows L2
/-! ### a slot is cleared -/
theorem Ent.clear {K : PySem.W.Frag} {F0 : Fz} {H0 : Hp} {ρ : Env'} {σ : L2.St} {F : Fz} {H : Hp} (e : Ent K F0 H0 ρ σ F H) (i : Nat) : Ent K F0 H0 (ρ.set i .no) (σ.set i none) F H := by
  have low : ∀ {j : Nat} {s : Sl}, s ≠ .no → (ρ.set i .no)[j]? = some s → j ≠ i ∧ ρ[j]? = some s := fun {j s} hs h => by
    by_cases hj : i = j
    · subst hj
      have hl := (List.getElem?_eq_some_iff.mp h).1
      rw [List.length_set] at hl
      rw [List.getElem?_set_self hl] at h
      exact absurd (Option.some.inj h).symm hs
    · rw [List.getElem?_set_ne hj] at h; exact ⟨Ne.symm hj, h⟩
  have up : ∀ {j : Nat} {x : Option (Option V)}, j ≠ i → ((σ.set i none)[j]? = x ↔ σ[j]? = x) := fun {j x} hj => by rw [List.getElem?_set_ne (Ne.symm hj)]
  refine ⟨⟨by rw [List.length_set, List.length_set]; exact e.rl.len, e.rl.fh, fun j d h => ?_, fun j ds h => ?_, fun j C fs h => ?_, fun j kvs h => ?_, fun j k s t v h1 o1 h2 o2 g1 g2 => ?_⟩, e.go, fun j s p h o hs => ?_⟩
  · obtain ⟨hj, h⟩ := low (s := .sh d) (fun z => nomatch z) h
    obtain ⟨v, a, b⟩ := e.rl.sh j d h
    exact ⟨v, (up hj).mpr a, b⟩
  · obtain ⟨hj, h⟩ := low (s := .ow ds) (fun z => nomatch z) h
    obtain ⟨p, vs, a, b⟩ := e.rl.ow j ds h
    exact ⟨p, vs, (up hj).mpr a, b⟩
  · obtain ⟨hj, h⟩ := low (s := .oi C fs) (fun z => nomatch z) h
    obtain ⟨p, dx, vs, a, b⟩ := e.rl.oi j C fs h
    exact ⟨p, dx, vs, (up hj).mpr a, b⟩
  · obtain ⟨hj, h⟩ := low (s := .od kvs) (fun z => nomatch z) h
    obtain ⟨p, vs, a, b⟩ := e.rl.od j kvs h
    exact ⟨p, vs, (up hj).mpr a, b⟩
  · obtain ⟨hj, h1⟩ := low (fun z => by subst z; cases o1) h1
    obtain ⟨hk, h2⟩ := low (fun z => by subst z; cases o2) h2
    exact e.rl.inj j k s t v h1 o1 h2 o2 ((up hj).mp g1) ((up hk).mp g2)
  · obtain ⟨hj, h⟩ := low (fun z => by subst z; cases o) h
    exact e.new j s p h o ((up hj).mp hs)
def liftS (K : PySem.W.Frag) (W : WX) (t : DS) : TS := fun D σ H => ∃ (F0 : Fz) (H0 : Hp) (ρ : Env') (F : Fz) (d : DE), Ent K F0 H0 ρ σ F H ∧ Cnt K W F0 H0 d D ∧ t d ρ
theorem RSs.lift {X : Cx} {W : WX} {b : List Stmt} {t : DS} (h : RSs X W b t) : PSs X b (liftS X.K W t) := by
  obtain ⟨ts, h1, h2⟩ := h.run
  exact ⟨fun pins s σ H D I ⟨F0, H0, ρ, F, d, en, c, q⟩ => h1.run pins s σ H D I (h2 F0 H0 ρ σ F H D d en c q)⟩
section
variable {X : Cx} {W : WX} {body suite : List Stmt} {b₀ : Stmt} {pos pos' np : Pos} {t : DS}
/-! ### try -/
end
end Dl

/-! The D-layer, part 32: __init__ keeps its promise. -/
namespace Dl
open PySem PySem.Spec
open PyProof.Rows L2
def startI (C : Addr × Addr) (N : List Str) (ds : List D) : Env' := .oi C [] :: (ds.map .sh ++ List.replicate (N.length - (ds.length + 1)) .no)
/-- behind an __init__ -/
def atI0 (C : Addr × Addr) (Q : List (Str × D) → Prop) (ρ : Env') : Prop := match ρ with
  | .oi C' fs :: _ => C' = C ∧ Q fs
  | _ => False
abbrev dEI (C : Addr × Addr) (Q : List (Str × D) → Prop) (E : EQ) : DE := ⟨atI0 C Q, fun _ => False, fun _ => False, fun _ => False, fun _ => E, fun _ => False, fun _ _ => False⟩
theorem Rl.oi0 {K : PySem.W.Frag} {d : D} {ρ : Env'} {σ : L2.St} {F : Fz} {H : Hp} {x C dx : Addr} (r : Rl K (.sh d :: ρ) σ F H) (no : ∀ (i : Nat) (s : Sl), ρ[i]? = some s → ¬ s.own = true) (hs : σ[0]? = some (some (.ref x))) (hx : H x = some (.ins C dx [])) (fx : F x = none) :
    Rl K (.oi (C, x) [] :: ρ) σ F H where
  len := r.len
  fh := r.fh
  sh := fun i d' e => match i, e with
    | i + 1, e => r.sh (i + 1) d' e
  ow := fun i ds e => match i, e with
    | i + 1, e => absurd rfl (no i _ e)
  oi := fun i C' fs e => match i, e with
    | 0, e => by cases e; exact ⟨x, dx, [], hs, hx, fx, .nil, rfl⟩
    | i + 1, e => absurd rfl (no i _ e)
  od := fun i kvs e => match i, e with
    | i + 1, e => absurd rfl (no i _ e)
  inj := fun i j s t v h1 o1 h2 o2 _ _ => match i, j, h1, h2 with
    | 0, 0, _, _ => rfl
    | i + 1, _, h1, _ => absurd o1 (no i _ h1)
    | _, j + 1, _, h2 => absurd o2 (no j _ h2)
theorem def_okI {P : Program} {w : World} {K : PySem.W.Frag} {mg : Str → Option Value} {base : Heap} {name qual : Str} {st : Stmt} {f C : Addr} {N ps : List Str} {k n : Nat} {G : DI} {tb : DS} {oc dV kV doc pm cdv ct : Value} {od an : Option Addr} {osl : Array (Option Value)}
    (lk : K.lookup f = some ⟨oc, od, .func (PySem.W.fnOf name qual (defArgs st) (defBody st) (defScope st) dV kV doc pm an cdv ct), osl⟩) (hcd : PySem.W.codeIn K cdv qual = true) (S : FnScope N ps (defScope st)) (hn : ps.length = n)
    (body : ∀ (cdv : Value) (A : Around) (outer : List Env) (s : Shared) (H : Hp) (E : XK), Room k (A.deeper (envOfC qual (defScope st) s.heap.objs.size f cdv)) → RSs (cxOf (L2.CX P w) P w K mg base N qual (defScope st) f cdv A outer s H E) (WF E) (defBody st) tb)
    (read : ∀ x ds Q E, ds.length + 1 = n → G ds Q E → tb (dEI (C, x) Q E) (startI (C, x) N ds)) :
    FnOk P w K mg base (L2.CX P w) (k + 1) f (PySem.W.fnOf name qual (defArgs st) (defBody st) (defScope st) dV kV doc pm an cdv ct) ps (spI K n C G) := by
  refine fn_of lk hcd S (fun vs H Q E h => ?_) fun A outer s H vs Q E hr h => ?_
  · obtain ⟨ds, F, H1, x, dx, us, Qd, Ed, rfl, _, _, _, _, _, r, hl, _⟩ := h
    rw [List.length_cons, r.length, hl, hn]
  · obtain ⟨ts, h1, h2⟩ := (body cdv A outer s H E hr).run
    refine ⟨ts, h1, ?_⟩
    obtain ⟨ds, F1, H1, x, dx, us, Qd, Ed, rfl, hH, nx, ndx, ne, sf, r, hl, g, k1, k2⟩ := h
    have s1 : Same H1 H := by
      rw [hH]
      exact (same_upd ndx).trans (same_upd (by rw [upd_ne (Ne.symm ne)]; exact nx))
    have hx : H x = some (.ins C dx []) := by rw [hH]; exact upd_same
    have fx : F1 x = none := by
      cases e : F1 x with
      | none => rfl
      | some o => have := sf _ _ e; rw [nx] at this; cases this
    have sfH : Same F1 H := sf.trans s1
    have rl := start_rl (N := N) sfH (Reps.cons (Rep.ob (.ref x)) r)
    have no : ∀ (i : Nat) (s : Sl), (ds.map Sl.sh ++ List.replicate (N.length - (ds.length + 1)) Sl.no)[i]? = some s → ¬ s.own = true := fun i s h => start_own (N := N) (ds := .ob (.ref x) :: ds) (i := i + 1) h
    have hs0 : (L2.start N (V.ref x :: us))[0]? = some (some (.ref x)) := by
      unfold L2.start
      rfl
    have rl2 : Rl K (startI (C, x) N ds) (L2.start N (.ref x :: us)) F1 H := rl.oi0 no hs0 hx fx
    have go : Go F1 H1 F1 H := ⟨SameF.refl _, s1, sfH, fun _ h _ => h⟩
    refine h2 F1 H1 (startI (C, x) N ds) _ F1 H _ (dEI (C, x) Qd Ed) ⟨rl2, go, fun i s p h o hs => ?_⟩ ⟨fun ρ σ F' H' e q => ?_, fun _ _ _ _ _ _ q => q.elim, fun _ _ _ _ _ q => q.elim, fun _ _ _ _ _ q => q.elim, fun ρ σ F' H' e x cls dx F2 H2 g r q => k2 x cls dx F2 H2 (e.go.trans g) r q, fun _ _ _ _ _ _ q => q.elim, fun _ _ _ _ _ _ _ _ _ _ _ _ q => q.elim⟩ (read x ds Qd Ed hl g)
    · cases i with
      | zero =>
        rw [hs0] at hs
        cases hs
        exact nx
      | succ i => exact absurd o (no i s h)
    · have q : atI0 (C, x) Qd ρ := q
      unfold atI0 at q
      split at q
      · rename_i C' fs tl hq
        obtain ⟨rfl, q⟩ := q
        obtain ⟨p, dx', ws, g1, g2, g3, g4, rfl⟩ := e.rl.oi 0 (C, x) fs rfl
        exact k1 fs ws F' H' dx' e.go g2 g3 g4 q
      · exact q.elim
end Dl

/-! The D-layer, part 33: what classes answer to isinstance and except. -/
namespace Dl
open PySem PySem.Spec
open PyProof.Rows L2
theorem kitcls_of {K : PySem.W.Frag} {t : Value} {C : Addr} {b : Bool} (h2 : PySem.W.isClsIn K C = true) (h3 : PySem.W.typeIn K (.ref C) = some (.type "type")) (h4 : PySem.W.subIn K t (.ref C) = some b) : PySem.W.kitCls K t (.ref C) = some b := by
  have e2 : ((PySem.W.clsIn K C).isSome && PySem.W.typeIn K (.ref C) == some (.type "type")) = true := by
    have h2' : (PySem.W.clsIn K C).isSome = true := h2
    rw [h2', h3] <;> rfl
  show (if ((PySem.W.clsIn K C).isSome && PySem.W.typeIn K (.ref C) == some (.type "type")) = true then PySem.W.subIn K t (.ref C) else none) = some b
  rw [if_pos e2]
  exact h4
theorem kit_of {K : PySem.W.Frag} {t : Value} {C : Addr} {b : Bool} (h2 : PySem.W.isClsIn K C = true) (h3 : PySem.W.typeIn K (.ref C) = some (.type "type")) (h4 : PySem.W.subIn K t (.ref C) = some b) (hne : (t == .ref C) = true → b = true) : PySem.W.kitOne K t (.ref C) = some b := by
  unfold PySem.W.kitOne
  by_cases h : (t == .ref C) = true
  · rw [if_pos h, hne h]
  · rw [if_neg h]; exact kitcls_of h2 h3 h4
end Dl

/-! The D-layer, part 34: a tuple times 0, 1; a list == []. -/
namespace Dl
open PySem PySem.Spec
open PyProof.Rows L2
section
variable {X : Cx}
/-! ### lists of unlike lengths -/
theorem op_eqLen (hu : X.A.units + 64 < cLine) : OpR X (compareOp .Eq) (fun x y H Q => ∃ a b xs ys, x = .ref a ∧ y = .ref b ∧ SqL X.K H a xs ∧ SqL X.K H b ys ∧ xs.length ≠ ys.length ∧ Q (.bl false) H) := by
  intro pins s σ H x y v u Q I rx ry h
  obtain ⟨a, b, xs, ys, rfl, rfl, h1, h2, hne, q⟩ := h
  cases rx
  cases ry
  obtain ⟨its, r, pl, -⟩ := I.list h1
  obtain ⟨its2, r2, pl2, -⟩ := I.list h2
  refine SeqAt.eq_list_lengthsAt pl.isList pl2.isList ?_ (by omega) ⟨.bl false, H, I, rfl, q⟩
  rw [List.size_toArray, List.size_toArray, ← r.length, ← r2.length]
  exact bne_iff_ne.mpr hne
/-- a list == [], whatever is in it -/
def kEqZ : KD := fun x y Q => match x, y with
  | .lst (_ :: _), .lst [] => Q (.bl false)
  | x, y => kEq x y Q
theorem opd_eqZ (hu : X.A.units + 64 < cLine) : OpD X (compareOp .Eq) kEqZ := by
  have base : OpD X (compareOp .Eq) (fun x y Q => match x, y with | .lst (_ :: _), .lst [] => Q (.bl false) | _, _ => False) := by
    refine ⟨_, op_eqLen hu, fun x y vx vy F H Qd Q e px py kk q => ?_⟩
    dsimp only at q
    split at q
    · obtain ⟨p, vs, rfl, h1, l1, r1⟩ := px.lst e
      obtain ⟨p', vs', rfl, h1', l1', r1'⟩ := py.lst e
      refine ⟨p, p', vs, vs', rfl, rfl, SqL.of h1, SqL.of h1', ?_, kk _ _ F H (.refl e) (.bl _) q⟩
      rw [r1.length, r1'.length]
      exact fun z => nomatch z
    · exact q.elim
  refine (base.or (opd_eq hu)).imp fun x y Q h => ?_
  unfold kEqZ at h
  split at h
  · exact .inl h
  · exact .inr h
end
end Dl

/-! The D-layer, part 35: things, read once. -/
namespace Dl
open PySem PySem.Spec
open PyProof.Rows L2
local macro_rules | `(tactic| walk_at "sd") => `(tactic| first | with_reducible assumption | omega | with_reducible rfl | exact (rfl : (_ : Bool) = true) | decide | exact few_of (by decide) | exact divOk_small (by decide) (by decide +kernel) | exact mulOk_r (by omega) (by omega) | exact mulOk_l (by omega) (by omega) | ((with_reducible apply mul_of); (walk_at "bx"); (walk_at "bx"); first | omega | decide) | exact few_of (by simp only [List.length_append, List.length_map, List.length_cons, List.length_nil, tab_len, List.length_replicate]; omega))
structure ThK (K : PySem.W.Frag) (C_Mode C_Thing : Addr) : Prop where
  f_Mode_rows : FldOk K C_Mode "rows"
  f_Mode_nexts : FldOk K C_Mode "nexts"
  f_Mode_steer : FldOk K C_Mode "steer"
  f_Mode_push : FldOk K C_Mode "push"
  f_Mode_add : FldOk K C_Mode "add"
  f_Mode_divisor : FldOk K C_Mode "divisor"
  f_Thing_many : FldOk K C_Thing "many"
  f_Thing_bounds : FldOk K C_Thing "bounds"
  f_Thing_ways : FldOk K C_Thing "ways"
  i_Mode : InsTy K C_Mode
  i_Thing : InsTy K C_Thing
  k_Mode_Mode : PySem.W.kitOne K (.ref C_Mode) (.ref C_Mode) = some true
  n_int_Mode : PySem.W.kitOne K (.type "int") (.ref C_Mode) = some false
  n_bool_Mode : PySem.W.kitOne K (.type "bool") (.ref C_Mode) = some false
  n_NoneType_Mode : PySem.W.kitOne K (.type "NoneType") (.ref C_Mode) = some false
  n_str_Mode : PySem.W.kitOne K (.type "str") (.ref C_Mode) = some false
  n_tuple_Mode : PySem.W.kitOne K (.type "tuple") (.ref C_Mode) = some false
  n_list_Mode : PySem.W.kitOne K (.type "list") (.ref C_Mode) = some false
  n_dict_Mode : PySem.W.kitOne K (.type "dict") (.ref C_Mode) = some false
/-! ### kinds -/
def isWhB (d : D) : Bool := match d with
  | .int _ => true
  | _ => false
theorem isWh_some {d : D} (h : isWh d ≠ none) : isWh d = some (isWhB d) := by
  cases d <;> first
    | rfl
    | exact absurd rfl h
/-- known things: no raw ones, no list that is only lent -/
def knD (d : D) : Prop := tyN d ≠ none ∧ ∀ xs, d ≠ .frl xs
def kw (d : D) : Prop := knD d ∧ ∀ xs, (d = .lst xs ∨ d = .tup xs) → ∀ x ∈ xs, isWh x ≠ none
def awB (d : D) (k : Int) : Bool := match d with
  | .lst xs => decide ((xs.length : Int) = k) && xs.all isWhB
  | _ => false
def rwB (d : D) (k : Int) : Bool := match d with
  | .tup xs => decide ((xs.length : Int) = k + 1) && xs.all isWhB
  | _ => false
def rmB (d : D) (k : Int) : Bool := match d with
  | .lst xs => xs.all fun r => rwB r k
  | _ => false
def tbB (d : D) (k w : Int) : Bool := match d with
  | .lst xs => decide ((xs.length : Int) = k) && xs.all fun r => awB r w
  | _ => false
def kws (d : D) : Prop := knD d ∧ ∀ xs, d = .lst xs → ∀ x ∈ xs, kw x
theorem all_map_bl {α : Type} (f : α → Bool) (xs : List α) : blsOf (xs.map fun x => D.bl (f x)) = some (xs.map f) := by
  rw [show xs.map (fun x => D.bl (f x)) = (xs.map f).map D.bl by rw [List.map_map]; rfl, blsOf_map]
theorem all_map_id {α : Type} (f : α → Bool) (xs : List α) : (xs.map f).all id = xs.all f := by rw [List.all_map]; rfl
abbrev g_own_list : DF := fun ds Q _ => ∃ d, ds = [d] ∧ knD d ∧ Q d
abbrev N_own_list : List Str := ["thing"]
def tb_own_list (K : PySem.W.Frag) : DS :=
  (dSq (dIf (dTest (dCB (kIsi K) (dCons (dVarP 0) (dCons (dC (.ty "list")) dNil)))) (dRet (dCB kList (dCons (dVarP 0) dNil))) dNext) (dRet (dVar 0)))
theorem rd_own_list {K : PySem.W.Frag} (ds : List D) (Q E : EQ) (_ : ds.length = 1) (h : g_own_list ds Q E) : tb_own_list K (dE Q E) (startD N_own_list ds) := by
  obtain ⟨d, rfl, hd, q⟩ := h
  unfold tb_own_list dE
  cases d <;> first
    | exact absurd rfl hd.1
    | exact absurd rfl (hd.2 _)
    | (walk_at "go"; exact q)
/-- what own copies -/
def ko (d : D) : Prop := knD d ∧ ∀ xs, d = .lst xs → ∀ x ∈ xs, knD x
abbrev g_own : DF := fun ds Q _ => ∃ d, ds = [d] ∧ ko d ∧ Q d
abbrev N_own : List Str := ["thing", "one"]
def tb_own (K : PySem.W.Frag) : DS :=
  (dSq (dIf (dNot (dTest (dCB (kIsi K) (dCons (dVarP 0) (dCons (dC (.ty "list")) dNil))))) (dRet (dVar 0)) dNext) (dRet (dFz (dLcN (dSeq (dVar 0)) (gNm 1) dYes (dCall 1 [] g_own_list (dCons (dVar 1) dNil)) [1]))))
theorem rd_own {K : PySem.W.Frag} (ds : List D) (Q E : EQ) (_ : ds.length = 1) (h : g_own ds Q E) : tb_own K (dE Q E) (startD N_own ds) := by
  obtain ⟨d, rfl, hd, q⟩ := h
  unfold tb_own dE
  cases d with
  | lst xs =>
    walk_at "go"
    refine compL_map id _ _ (fun e he K1 K0 hK => ?_) (by rw [List.map_id, List.nil_append]; exact q)
    walk_at "go"
    exact ⟨e, rfl, hd.2 xs rfl e he, hK⟩
  | _ => first
    | exact absurd rfl hd.1.1
    | exact absurd rfl (hd.1.2 _)
    | (walk_at "go"; exact q)
abbrev g_are_wholes : DF := fun ds Q _ => ∃ (d : D) (k : Int), ds = [d, .int k] ∧ kw d ∧ Q (.bl (awB d k))
abbrev N_are_wholes : List Str := ["thing", "many", "one"]
def tb_are_wholes (K : PySem.W.Frag) : DS :=
  (dRet (dAndV (dCB (kIsi K) (dCons (dVarP 0) (dCons (dC (.ty "list")) dNil))) (dAndV (dOp kEq (dCB kLen (dCons (dVarP 0) dNil)) (dVarP 1)) (dCB kAll (dCons (dFz (dLcN (dSeq (dVar 0)) (gNm 2) dYes (dCall 1 [] g_is_whole (dCons (dVar 2) dNil)) [2])) dNil)))))
theorem rd_are_wholes {K : PySem.W.Frag} (ds : List D) (Q E : EQ) (_ : ds.length = 2) (h : g_are_wholes ds Q E) : tb_are_wholes K (dE Q E) (startD N_are_wholes ds) := by
  obtain ⟨d, k, rfl, hd, q⟩ := h
  unfold tb_are_wholes dE
  cases d with
  | lst xs =>
    have q : Q (.bl (decide ((xs.length : Int) = k) && xs.all isWhB)) := q
    walk_at "go"
    by_cases h0 : (xs.length : Int) = k
    · rw [decide_eq_true h0] at q ⊢
      walk_at "go"
      refine compL_map (fun d => .bl (isWhB d)) _ _ (fun e he K1 K0 hK => ?_) ?_
      · walk_at "go"
        exact ⟨e, _, rfl, isWh_some (hd.2 xs (.inl rfl) e he), hK⟩
      · rw [List.nil_append]
        walk_at "rd"
        rw [all_map_bl]
        walk_at "rd"
        rw [all_map_id]
        exact q
    · rw [decide_eq_false h0] at q ⊢
      walk_at "go"
      exact q
  | _ => first
    | exact absurd rfl hd.1.1
    | exact absurd rfl (hd.1.2 _)
    | (walk_at "go"; exact q)
abbrev g_is_row : DF := fun ds Q _ => ∃ (d : D) (k : Int), ds = [d, .int k] ∧ kw d ∧ Q (.bl (rwB d k))
abbrev N_is_row : List Str := ["thing", "many", "one"]
def tb_is_row (K : PySem.W.Frag) : DS :=
  (dRet (dAndV (dCB (kIsi K) (dCons (dVarP 0) (dCons (dC (.ty "tuple")) dNil))) (dAndV (dOp kEq (dCB kLen (dCons (dVarP 0) dNil)) (dOp kAdd (dVarP 1) (dC (.int 1)))) (dCB kAll (dCons (dFz (dLcN (dSeq (dVar 0)) (gNm 2) dYes (dCall 1 [] g_is_whole (dCons (dVar 2) dNil)) [2])) dNil)))))
theorem rd_is_row {K : PySem.W.Frag} (ds : List D) (Q E : EQ) (_ : ds.length = 2) (h : g_is_row ds Q E) : tb_is_row K (dE Q E) (startD N_is_row ds) := by
  obtain ⟨d, k, rfl, hd, q⟩ := h
  unfold tb_is_row dE
  cases d with
  | tup xs =>
    have q : Q (.bl (decide ((xs.length : Int) = k + 1) && xs.all isWhB)) := q
    walk_at "go"
    by_cases h0 : (xs.length : Int) = k + 1
    · rw [decide_eq_true h0] at q ⊢
      walk_at "go"
      refine compL_map (fun d => .bl (isWhB d)) _ _ (fun e he K1 K0 hK => ?_) ?_
      · walk_at "go"
        exact ⟨e, _, rfl, isWh_some (hd.2 xs (.inr rfl) e he), hK⟩
      · rw [List.nil_append]
        walk_at "rd"
        rw [all_map_bl]
        walk_at "rd"
        rw [all_map_id]
        exact q
    · rw [decide_eq_false h0] at q ⊢
      walk_at "go"
      exact q
  | _ => first
    | exact absurd rfl hd.1.1
    | exact absurd rfl (hd.1.2 _)
    | (walk_at "go"; exact q)
abbrev g_is_room : DF := fun ds Q _ => ∃ (d : D) (k : Int), ds = [d, .int k] ∧ kws d ∧ Q (.bl (rmB d k))
abbrev N_is_room : List Str := ["thing", "many", "row"]
def tb_is_room (K : PySem.W.Frag) : DS :=
  (dRet (dAndV (dCB (kIsi K) (dCons (dVarP 0) (dCons (dC (.ty "list")) dNil))) (dCB kAll (dCons (dFz (dLcN (dSeq (dVar 0)) (gNm 2) dYes (dCall 2 [] g_is_row (dCons (dVar 2) (dCons (dVar 1) dNil))) [2])) dNil))))
theorem rd_is_room {K : PySem.W.Frag} (ds : List D) (Q E : EQ) (_ : ds.length = 2) (h : g_is_room ds Q E) : tb_is_room K (dE Q E) (startD N_is_room ds) := by
  obtain ⟨d, k, rfl, hd, q⟩ := h
  unfold tb_is_room dE
  cases d with
  | lst xs =>
    have q : Q (.bl (xs.all fun r => rwB r k)) := q
    walk_at "go"
    refine compL_map (fun d => .bl (rwB d k)) _ _ (fun e he K1 K0 hK => ?_) ?_
    · walk_at "go"
      exact ⟨e, k, rfl, hd.2 xs rfl e he, hK⟩
    · rw [List.nil_append]
      walk_at "rd"
      rw [all_map_bl (fun d => rwB d k)]
      walk_at "rd"
      rw [all_map_id]
      exact q
  | _ => first
    | exact absurd rfl hd.1.1
    | exact absurd rfl (hd.1.2 _)
    | (walk_at "go"; exact q)
abbrev g_is_table : DF := fun ds Q _ => ∃ (d : D) (k w : Int), ds = [d, .int k, .int w] ∧ kws d ∧ Q (.bl (tbB d k w))
abbrev N_is_table : List Str := ["thing", "many", "wide", "one"]
def tb_is_table (K : PySem.W.Frag) : DS :=
  (dRet (dAndV (dCB (kIsi K) (dCons (dVarP 0) (dCons (dC (.ty "list")) dNil))) (dAndV (dOp kEq (dCB kLen (dCons (dVarP 0) dNil)) (dVarP 1)) (dCB kAll (dCons (dFz (dLcN (dSeq (dVar 0)) (gNm 3) dYes (dCall 2 [] g_are_wholes (dCons (dVar 3) (dCons (dVar 2) dNil))) [3])) dNil)))))
theorem rd_is_table {K : PySem.W.Frag} (ds : List D) (Q E : EQ) (_ : ds.length = 3) (h : g_is_table ds Q E) : tb_is_table K (dE Q E) (startD N_is_table ds) := by
  obtain ⟨d, k, w, rfl, hd, q⟩ := h
  unfold tb_is_table dE
  cases d with
  | lst xs =>
    have q : Q (.bl (decide ((xs.length : Int) = k) && xs.all fun r => awB r w)) := q
    walk_at "go"
    by_cases h0 : (xs.length : Int) = k
    · rw [decide_eq_true h0] at q ⊢
      walk_at "go"
      refine compL_map (fun d => .bl (awB d w)) _ _ (fun e he K1 K0 hK => ?_) ?_
      · walk_at "go"
        exact ⟨e, w, rfl, hd.2 xs rfl e he, hK⟩
      · rw [List.nil_append]
        walk_at "rd"
        rw [all_map_bl (fun d => awB d w)]
        walk_at "rd"
        rw [all_map_id]
        exact q
    · rw [decide_eq_false h0] at q ⊢
      walk_at "go"
      exact q
  | _ => first
    | exact absurd rfl hd.1.1
    | exact absurd rfl (hd.1.2 _)
    | (walk_at "go"; exact q)
/-! ### modes -/
def mdF (a b c d e f : D) : List (Str × D) := [("rows", a), ("nexts", b), ("steer", c), ("push", d), ("add", e), ("divisor", f)]
abbrev g_Mode_init : DI := fun ds Q _ => ∃ a b c d e f, ds = [a, b, c, d, e, f] ∧ ko a ∧ ko b ∧ ko c ∧ ko d ∧ ko e ∧ Q (mdF a b c d e f)
abbrev N_Mode_init : List Str := ["self", "rows", "nexts", "steer", "push", "add", "divisor"]
def tb_Mode_init (K : PySem.W.Frag) : DS :=
  (dSq (dPutF K 0 "rows" (dCall 1 [] g_own (dCons (dVar 1) dNil))) (dSq (dPutF K 0 "nexts" (dCall 1 [] g_own (dCons (dVar 2) dNil))) (dSq (dPutF K 0 "steer" (dCall 1 [] g_own (dCons (dVar 3) dNil))) (dSq (dPutF K 0 "push" (dCall 1 [] g_own (dCons (dVar 4) dNil))) (dSq (dPutF K 0 "add" (dCall 1 [] g_own (dCons (dVar 5) dNil))) (dPutF K 0 "divisor" (dVar 6)))))))
theorem rd_Mode_init {K : PySem.W.Frag} {CM CT : Addr} (hK : ThK K CM CT) (x : Addr) (ds : List D) (Q : List (Str × D) → Prop) (E : EQ) (_ : ds.length + 1 = 7) (h : g_Mode_init ds Q E) : tb_Mode_init K (dEI (CM, x) Q E) (startI (CM, x) N_Mode_init ds) := by
  obtain ⟨a, b, c, d, e, f, rfl, ha, hb, hc, hd, he, q⟩ := h
  have k1 := hK.f_Mode_rows
  have k2 := hK.f_Mode_nexts
  have k3 := hK.f_Mode_steer
  have k4 := hK.f_Mode_push
  have k5 := hK.f_Mode_add
  have k6 := hK.f_Mode_divisor
  unfold tb_Mode_init dEI startI
  walk_at "go"
  refine ⟨a, rfl, ha, ?_⟩
  walk_at "go"
  refine ⟨b, rfl, hb, ?_⟩
  walk_at "go"
  refine ⟨Nat.le_of_ble_eq_true rfl, ?_⟩
  walk_at "go"
  refine ⟨c, rfl, hc, ?_⟩
  walk_at "go"
  refine ⟨Nat.le_of_ble_eq_true rfl, ?_⟩
  walk_at "go"
  refine ⟨d, rfl, hd, ?_⟩
  walk_at "go"
  refine ⟨Nat.le_of_ble_eq_true rfl, ?_⟩
  walk_at "go"
  refine ⟨e, rfl, he, ?_⟩
  walk_at "go"
  refine ⟨Nat.le_of_ble_eq_true rfl, ?_⟩
  walk_at "go"
  refine ⟨Nat.le_of_ble_eq_true rfl, ?_⟩
  walk_at "go"
  exact q
def dvB (d : D) : Bool := match d with
  | .int z => decide (1 ≤ z)
  | _ => false
def mdB (C : Addr) (d : D) (n p : Int) : Bool := match d with
  | .ins C' [(_, a), (_, b), (_, c), (_, d), (_, e), (_, f)] => decide (C' = C) && (rmB a n && tbB b n n && awB c n && tbB d n p && awB e n && dvB f)
  | _ => false
/-- a mode, or something known that is none -/
def kM (C : Addr) (d : D) : Prop := (∃ a b c e f g, d = .ins C (mdF a b c e f g) ∧ kws a ∧ kws b ∧ kw c ∧ kws e ∧ kw f ∧ isWh g ≠ none) ∨ tyN d ≠ none
abbrev g_is_mode (C : Addr) : DF := fun ds Q _ => ∃ (d : D) (n p : Int), ds = [d, .int n, .int p] ∧ kM C d ∧ Q (.bl (mdB C d n p))
abbrev N_is_mode : List Str := ["thing", "many", "wide"]
def tb_is_mode (K : PySem.W.Frag) (C_Mode : Addr) : DS :=
  (dSq (dIf (dOr (dNot (dTest (dCB (kIsi K) (dCons (dVarP 0) (dCons (dC (.cls C_Mode)) dNil))))) (dOr (dNot (dTest (dCall 2 [] g_is_room (dCons (dFld K "rows" (dVar 0)) (dCons (dVar 1) dNil))))) (dNot (dTest (dCall 3 [] g_is_table (dCons (dFld K "nexts" (dVar 0)) (dCons (dVar 1) (dCons (dVar 1) dNil)))))))) (dRet (dC (.bl false))) dNext) (dSq (dIf (dOr (dNot (dTest (dCall 2 [] g_are_wholes (dCons (dFld K "steer" (dVar 0)) (dCons (dVar 1) dNil))))) (dOr (dNot (dTest (dCall 3 [] g_is_table (dCons (dFld K "push" (dVar 0)) (dCons (dVar 1) (dCons (dVar 2) dNil)))))) (dNot (dTest (dCall 2 [] g_are_wholes (dCons (dFld K "add" (dVar 0)) (dCons (dVar 1) dNil))))))) (dRet (dC (.bl false))) dNext) (dRet (dAndV (dCall 1 [] g_is_whole (dCons (dFld K "divisor" (dVar 0)) dNil)) (dOp kGe (dFld K "divisor" (dVar 0)) (dC (.int 1)))))))
theorem rd_is_mode {K : PySem.W.Frag} {CM CT : Addr} (hK : ThK K CM CT) (ds : List D) (Q E : EQ) (_ : ds.length = 3) (h : g_is_mode CM ds Q E) : tb_is_mode K CM (dE Q E) (startD N_is_mode ds) := by
  obtain ⟨d, n, p, rfl, hd, q⟩ := h
  have k1 := hK.f_Mode_rows
  have k2 := hK.f_Mode_nexts
  have k3 := hK.f_Mode_steer
  have k4 := hK.f_Mode_push
  have k5 := hK.f_Mode_add
  have k6 := hK.f_Mode_divisor
  have ki := hK.i_Mode
  unfold tb_is_mode dE
  rcases hd with ⟨a, b, c, e, f, g, rfl, ha, hb, hc, he, hf, hg⟩ | hd
  · have q : Q (.bl (decide (CM = CM) && (rmB a n && tbB b n n && awB c n && tbB e n p && awB f n && dvB g))) := q
    rw [decide_eq_true rfl, Bool.true_and] at q
    unfold mdF
    walk_at "go"
    rw [hK.k_Mode_Mode]
    walk_at "go"
    refine ⟨a, n, rfl, ha, ?_⟩
    cases h1 : rmB a n
    · rw [h1] at q; walk_at "go"; exact q
    rw [h1] at q
    walk_at "go"
    refine ⟨b, n, n, rfl, hb, ?_⟩
    cases h2 : tbB b n n
    · rw [h2] at q; walk_at "go"; exact q
    rw [h2] at q
    walk_at "go"
    refine ⟨c, n, rfl, hc, ?_⟩
    cases h3 : awB c n
    · rw [h3] at q; walk_at "go"; exact q
    rw [h3] at q
    walk_at "go"
    refine ⟨e, n, p, rfl, he, ?_⟩
    cases h4 : tbB e n p
    · rw [h4] at q; walk_at "go"; exact q
    rw [h4] at q
    walk_at "go"
    refine ⟨f, n, rfl, hf, ?_⟩
    cases h5 : awB f n
    · rw [h5] at q; walk_at "go"; exact q
    rw [h5] at q
    walk_at "go"
    refine ⟨g, _, rfl, isWh_some hg, ?_⟩
    cases g <;> first
      | (walk_at "go"; exact q)
      | exact absurd rfl hg
  · have ks : PySem.W.kitOne K (.type "int") (.ref CM) = some false ∧ PySem.W.kitOne K (.type "bool") (.ref CM) = some false ∧ PySem.W.kitOne K (.type "NoneType") (.ref CM) = some false ∧ PySem.W.kitOne K (.type "str") (.ref CM) = some false ∧ PySem.W.kitOne K (.type "tuple") (.ref CM) = some false ∧ PySem.W.kitOne K (.type "list") (.ref CM) = some false ∧ PySem.W.kitOne K (.type "dict") (.ref CM) = some false :=
      ⟨hK.n_int_Mode, hK.n_bool_Mode, hK.n_NoneType_Mode, hK.n_str_Mode, hK.n_tuple_Mode, hK.n_list_Mode, hK.n_dict_Mode⟩
    obtain ⟨z1, z2, z3, z4, z5, z6, z7⟩ := ks
    cases d <;> first
      | exact absurd rfl hd
      | (walk_at "go"; first | rw [z1] | rw [z2] | rw [z3] | rw [z4] | rw [z5] | rw [z6] | rw [z7]
         walk_at "go"; exact q)
end Dl

/-! The D-layer, part 36: things made, told. -/
namespace Dl
open PySem PySem.Spec
open PyProof.Rows L2
local macro_rules | `(tactic| walk_at "sd") => `(tactic| first | with_reducible assumption | omega | with_reducible rfl | exact (rfl : (_ : Bool) = true) | decide | exact few_of (by decide) | exact divOk_small (by decide) (by decide +kernel) | exact mulOk_r (by omega) (by omega) | exact mulOk_l (by omega) (by omega) | ((with_reducible apply mul_of); (walk_at "bx"); (walk_at "bx"); first | omega | decide) | exact few_of (by simp only [List.length_append, List.length_map, List.length_cons, List.length_nil, tab_len, List.length_replicate]; omega))
def psTwo : D → D → Bool
  | .int a, .int b => decide (a ≤ b)
  | _, _ => false
def psB (d : D) : Bool := match d with
  | .tup l => (match l with
    | [x, y] => psTwo x y
    | _ => false)
  | _ => false
def kP (d : D) : Prop := knD d ∧ ∀ x y, d = .tup [x, y] → isWh x ≠ none ∧ isWh y ≠ none
abbrev g_is_push : DF := fun ds Q _ => ∃ d, ds = [d] ∧ kP d ∧ Q (.bl (psB d))
abbrev N_is_push : List Str := ["thing"]
def tb_is_push (K : PySem.W.Frag) : DS :=
  (dSq (dIf (dOr (dNot (dTest (dCB (kIsi K) (dCons (dVarP 0) (dCons (dC (.ty "tuple")) dNil))))) (dOr (dTest (dOp kNe (dCB kLen (dCons (dVarP 0) dNil)) (dC (.int 2)))) (dOr (dNot (dTest (dCall 1 [] g_is_whole (dCons (dOp kIx (dVarP 0) (dC (.int 0))) dNil)))) (dNot (dTest (dCall 1 [] g_is_whole (dCons (dOp kIx (dVarP 0) (dC (.int 1))) dNil))))))) (dRet (dC (.bl false))) dNext) (dRet (dOp kLe (dOp kIx (dVarP 0) (dC (.int 0))) (dOp kIx (dVarP 0) (dC (.int 1))))))
theorem rd_is_push {K : PySem.W.Frag} (ds : List D) (Q E : EQ) (_ : ds.length = 1) (h : g_is_push ds Q E) : tb_is_push K (dE Q E) (startD N_is_push ds) := by
  obtain ⟨d, rfl, hd, q⟩ := h
  unfold tb_is_push dE
  cases d with
  | tup l =>
    match l, hd, q with
    | [], hd, q => walk_at "go"; exact q
    | [x], hd, q => walk_at "go"; exact q
    | [x, y], hd, q =>
      obtain ⟨hx, hy⟩ := hd.2 x y rfl
      walk_at "go"
      refine ⟨x, _, rfl, isWh_some hx, ?_⟩
      cases x <;> first
        | exact absurd rfl hx
        | (walk_at "go"; exact q)
        | skip
      walk_at "go"
      refine ⟨y, _, rfl, isWh_some hy, ?_⟩
      cases y <;> first
        | exact absurd rfl hy
        | (walk_at "go"; exact q)
    | x :: y :: z :: l, hd, q =>
      walk_at "go"
      exact q
  | _ => first
    | exact absurd rfl hd.1.1
    | exact absurd rfl (hd.1.2 _)
    | (walk_at "go"; exact q)
/-! ### things -/
def thF (m b w : D) : List (Str × D) := [("many", m), ("bounds", b), ("ways", w)]
def manyB (d : D) : Bool := match d with
  | .int n => decide (1 ≤ n) && decide (n ≤ 3)
  | _ => false
def psB' (d : D) : Bool := match d with
  | .lst xs => xs.all psB
  | _ => false
def msB (C : Addr) (n : Int) (d : D) (p : Int) : Bool := match d with
  | .lst (x :: xs) => (x :: xs).all fun m => mdB C m n p
  | _ => false
def lenD (d : D) : Nat := match d with
  | .lst xs => xs.length
  | _ => 0
def numD (d : D) : Int := match d with
  | .int n => n
  | _ => 0
def thB (C : Addr) (m b w : D) : Bool := manyB m && (psB' b && msB C (numD m) w (lenD b))
def kPs (d : D) : Prop := knD d ∧ ∀ xs, d = .lst xs → ∀ x ∈ xs, kP x
def kMs (C : Addr) (d : D) : Prop := knD d ∧ ∀ xs, d = .lst xs → ∀ x ∈ xs, kM C x
/-- what Thing(many, pushes, modes) does: CM, CB, CO the classes Mode, BadThing, TooMany -/
abbrev g_Thing_init (CM CB CO : Addr) : DI := fun ds Q E => ∃ m b w, ds = [m, b, w] ∧ isWh m ≠ none ∧ kPs b ∧ kMs CM w ∧
  if thB CM m b w = true then (if 6 < lenD b ∨ 40 < lenD w then E (.ins CO []) else Q (thF m b w)) else E (.ins CB [])
abbrev N_Thing_init : List Str := ["self", "many", "pushes", "modes", "push", "mode"]
def tb_Thing_init (K : PySem.W.Frag) (C_BadThing C_Mode C_TooMany : Addr) : DS :=
  (dSq (dIf (dOr (dNot (dTest (dCall 1 [] g_is_whole (dCons (dVar 1) dNil)))) (dNot (dTest (dChain kLe kLe (dC (.int 1)) (dVarP 1) (dC (.int 3)))))) (dRaise C_BadThing) dNext) (dSq (dIf (dOr (dNot (dTest (dCB (kIsi K) (dCons (dVarP 2) (dCons (dC (.ty "list")) dNil))))) (dNot (dTest (dCB kAll (dCons (dFz (dLcN (dSeq (dVar 2)) (gNm 4) dYes (dCall 1 [] g_is_push (dCons (dVar 4) dNil)) [4])) dNil))))) (dRaise C_BadThing) dNext) (dSq (dIf (dOr (dNot (dTest (dCB (kIsi K) (dCons (dVarP 3) (dCons (dC (.ty "list")) dNil))))) (dTest (dOp kEqZ (dVarP 3) (dLst dNil)))) (dRaise C_BadThing) dNext) (dSq (dIf (dNot (dTest (dCB kAll (dCons (dFz (dLcN (dSeq (dVar 3)) (gNm 5) dYes (dCall 3 [] (g_is_mode C_Mode) (dCons (dVar 5) (dCons (dVar 1) (dCons (dCB kLen (dCons (dVarP 2) dNil)) dNil)))) [5])) dNil)))) (dRaise C_BadThing) dNext) (dSq (dIf (dOr (dTest (dOp kGt (dCB kLen (dCons (dVarP 2) dNil)) (dC (.int 6)))) (dTest (dOp kGt (dCB kLen (dCons (dVarP 3) dNil)) (dC (.int 40))))) (dRaise C_TooMany) dNext) (dSq (dPutF K 0 "many" (dVar 1)) (dSq (dPutF K 0 "bounds" (dCB kList (dCons (dVarP 2) dNil))) (dPutF K 0 "ways" (dCB kList (dCons (dVarP 3) dNil))))))))))
theorem rd_Thing_init {K : PySem.W.Frag} {CM CT CB CO : Addr} (hK : ThK K CM CT) (x : Addr) (ds : List D) (Q : List (Str × D) → Prop) (E : EQ) (_ : ds.length + 1 = 4) (h : g_Thing_init CM CB CO ds Q E) : tb_Thing_init K CB CM CO (dEI (CT, x) Q E) (startI (CT, x) N_Thing_init ds) := by
  obtain ⟨m, b, w, rfl, hm, hb, hw, q⟩ := h
  have k1 := hK.f_Thing_many
  have k2 := hK.f_Thing_bounds
  have k3 := hK.f_Thing_ways
  unfold tb_Thing_init dEI startI
  walk_at "go"
  refine ⟨m, _, rfl, isWh_some hm, ?_⟩
  -- the number
  have bad : ∀ (c : Bool), manyB m = false → E (.ins CB []) := fun _ h => by
    unfold thB at q
    rw [h] at q
    exact q
  cases m with
  | int n =>
    walk_at "go"
    by_cases h1 : 1 ≤ n
    case neg =>
      rw [decide_eq_false h1]
      walk_at "go"
      exact bad true (by unfold manyB; dsimp only; rw [decide_eq_false h1]; rfl)
    rw [decide_eq_true h1]
    walk_at "go"
    by_cases h3 : n ≤ 3
    case neg =>
      rw [decide_eq_false h3]
      walk_at "go"
      exact bad true (by unfold manyB; dsimp only; rw [decide_eq_false h3, Bool.and_false])
    rw [decide_eq_true h3]
    have hmb : manyB (.int n) = true := by unfold manyB; dsimp only; rw [decide_eq_true h1, decide_eq_true h3]; rfl
    unfold thB at q
    rw [hmb, Bool.true_and] at q
    walk_at "go"
    -- the pushes
    cases b with
    | lst ps =>
      walk_at "go"
      refine compL_map (fun d => .bl (psB d)) _ _ (fun e he K1 K0 hK => ?_) ?_
      · walk_at "go"
        exact ⟨e, rfl, hb.2 ps rfl e he, hK⟩
      rw [List.nil_append]
      walk_at "rd"
      rw [all_map_bl]
      walk_at "rd"
      rw [all_map_id]
      have e1 : psB' (.lst ps) = ps.all psB := rfl
      rw [e1] at q
      cases hp : ps.all psB
      · rw [hp] at q
        walk_at "go"
        exact q
      rw [hp, Bool.true_and] at q
      walk_at "go"
      -- the modes
      cases w with
      | lst ms =>
        cases ms with
        | nil =>
          walk_at "go"
          refine ⟨plain_of rfl, plain_of rfl, ?_⟩
          walk_at "go"
          exact q
        | cons x xs =>
          walk_at "go"
          refine compL_map (fun d => .bl (mdB CM d n ps.length)) _ _ (fun e he K1 K0 hK => ?_) ?_
          · walk_at "go"
            exact ⟨e, n, _, rfl, hw.2 _ rfl e he, hK⟩
          rw [List.nil_append]
          walk_at "rd"
          rw [show (D.bl (mdB CM x n ps.length) :: xs.map fun d => D.bl (mdB CM d n ps.length)) = (x :: xs).map (fun d => D.bl (mdB CM d n ps.length)) from rfl, all_map_bl (fun d => mdB CM d n ps.length)]
          walk_at "rd"
          rw [show (mdB CM x n ps.length :: xs.map fun d => mdB CM d n ps.length) = (x :: xs).map (fun d => mdB CM d n ps.length) from rfl, all_map_id]
          have e2 : msB CM (numD (.int n)) (.lst (x :: xs)) (lenD (.lst ps)) = (x :: xs).all fun m => mdB CM m n ps.length := rfl
          rw [e2] at q
          cases ha : (x :: xs).all fun m => mdB CM m n ps.length
          · rw [ha] at q
            walk_at "go"
            exact q
          rw [ha, if_pos rfl] at q
          have l1 : lenD (.lst ps) = ps.length := rfl
          have l2 : lenD (.lst (x :: xs)) = xs.length + 1 := rfl
          rw [l1, l2] at q
          walk_at "go"
          by_cases c1 : 6 < ps.length
          · rw [decide_eq_true (show (6 : Int) < (ps.length : Int) by omega)]
            rw [if_pos (.inl c1)] at q
            walk_at "go"
            exact q
          rw [decide_eq_false (show ¬ (6 : Int) < (ps.length : Int) by omega)]
          walk_at "go"
          by_cases c2 : 40 < xs.length + 1
          · rw [decide_eq_true (show (40 : Int) < ((xs.length + 1 : Nat) : Int) by omega)]
            rw [if_pos (.inr c2)] at q
            walk_at "go"
            exact q
          rw [decide_eq_false (show ¬ (40 : Int) < ((xs.length + 1 : Nat) : Int) by omega)]
          rw [if_neg (by omega)] at q
          walk_at "go"
          refine ⟨Nat.le_of_ble_eq_true rfl, ?_⟩
          walk_at "go"
          refine ⟨Nat.le_of_ble_eq_true rfl, ?_⟩
          walk_at "go"
          exact q
      | _ => first
        | exact absurd rfl hw.1.1
        | exact absurd rfl (hw.1.2 _)
        | (walk_at "go"; exact q)
    | _ => first
      | exact absurd rfl hb.1.1
      | exact absurd rfl (hb.1.2 _)
      | (walk_at "go"; exact q)
  | _ => first
    | exact absurd rfl hm
    | (walk_at "go"; exact q)
abbrev g_Thing_pushes (CT : Addr) : DF := fun ds Q _ => ∃ (m w : D) (ps : List D), ds = [.ins CT (thF m (.lst ps) w)] ∧ Q (.lst ps)
abbrev N_Thing_pushes : List Str := ["self"]
def tb_Thing_pushes (K : PySem.W.Frag) : DS :=
  (dRet (dCB kList (dCons (dFld K "bounds" (dVar 0)) dNil)))
theorem rd_Thing_pushes {K : PySem.W.Frag} {CM CT : Addr} (hK : ThK K CM CT) (ds : List D) (Q E : EQ) (_ : ds.length = 1) (h : g_Thing_pushes CT ds Q E) : tb_Thing_pushes K (dE Q E) (startD N_Thing_pushes ds) := by
  obtain ⟨m, w, ps, rfl, q⟩ := h
  have k2 := hK.f_Thing_bounds
  unfold tb_Thing_pushes dE thF
  walk_at "go"
  exact q
abbrev g_Thing_modes (CT : Addr) : DF := fun ds Q _ => ∃ (m b : D) (ms : List D), ds = [.ins CT (thF m b (.lst ms))] ∧ Q (.lst ms)
abbrev N_Thing_modes : List Str := ["self"]
def tb_Thing_modes (K : PySem.W.Frag) : DS :=
  (dRet (dCB kList (dCons (dFld K "ways" (dVar 0)) dNil)))
theorem rd_Thing_modes {K : PySem.W.Frag} {CM CT : Addr} (hK : ThK K CM CT) (ds : List D) (Q E : EQ) (_ : ds.length = 1) (h : g_Thing_modes CT ds Q E) : tb_Thing_modes K (dE Q E) (startD N_Thing_modes ds) := by
  obtain ⟨m, b, ms, rfl, q⟩ := h
  have k2 := hK.f_Thing_ways
  unfold tb_Thing_modes dE thF
  walk_at "go"
  exact q
end Dl

/-! The D-layer, part 37: reach. -/
namespace Dl
open PySem PySem.Spec
open PyProof.Rows L2
local macro_rules | `(tactic| walk_at "sd") => `(tactic| first | with_reducible assumption | omega | with_reducible rfl | exact (rfl : (_ : Bool) = true) | decide | exact few_of (by decide) | exact divOk_small (by decide) (by decide +kernel) | exact mulOk_r (by omega) (by omega) | exact mulOk_l (by omega) (by omega) | ((with_reducible apply mul_of); (walk_at "bx"); (walk_at "bx"); first | omega | decide) | exact few_of (by simp only [List.length_append, List.length_map, List.length_cons, List.length_nil, tab_len, List.length_replicate]; omega))
/-- lists of so many lists of so many ints -/
def lstL (n w : Nat) (R : Mat) : List D := (List.range n).map fun k => .lst (tabD w (R k))
theorem lstL_len {n w : Nat} {R : Mat} : (lstL n w R).length = n := rng_len
end Dl

local macro_rules | `(tactic| walk_at "sd") => `(tactic| first | with_reducible assumption | omega | with_reducible rfl | exact (rfl : (_ : Bool) = true) | exact (rfl : @Eq (Option D) _ none) | decide | exact few_of (by decide) | exact divOk_small (by decide) (by decide +kernel) | exact mulOk_r (by omega) (by omega) | exact mulOk_l (by omega) (by omega) | ((with_reducible apply mul_of); (walk_at "bx"); (walk_at "bx"); first | omega | decide) | exact few_of (by simp only [List.length_append, List.length_map, List.length_cons, List.length_nil, tab_len, List.length_replicate]; omega))
/-! The D-layer, part 38: standing, reach. -/
namespace Dl
open PySem PySem.Spec
open PyProof.Rows L2
def pD (p : Int × Int) : D := .tup [.int p.1, .int p.2]
/-- a thing's tree, told by its parts -/
def thI (CT : Addr) (n : Nat) (ps : List (Int × Int)) (ms : List D) : D := .ins CT (thF (.int n) (.lst (ps.map pD)) (.lst ms))
/-- a mode's tree -/
structure Md where
  rows : List (Nat → Int)
  nexts : Mat
  steer : Nat → Int
  push : Mat
  add : Nat → Int
  div : Int
def mdI (CM : Addr) (n p : Nat) (m : Md) : D := .ins CM (mdF (.lst (m.rows.map (rowW (n + 1)))) (.lst (lstL n n m.nexts)) (.lst (tabD n m.steer)) (.lst (lstL n p m.push)) (.lst (tabD n m.add)) (.int m.div))
structure okMd (b : Nat) (m : Md) : Prop where
  nexts : ∀ i j, bnd b (m.nexts i j)
  push : ∀ i j, bnd b (m.push i j)
  add : ∀ i, bnd b (m.add i)
  div : bnd b m.div
end Dl

/-! The D-layer, part 39: rows held at points, whatever the bottom is. -/
namespace Dl
open PySem PySem.Spec
open PyProof.Rows L2
theorem dot_add (r s y : Nat → Int) : ∀ n, dot (fun j => r j + s j) y n = dot r y n + dot s y n
  | 0 => rfl
  | n + 1 => by unfold dot; rw [dot_add r s y n]; grind
theorem dot_add_r (r y z : Nat → Int) : ∀ n, dot r (fun j => y j + z j) n = dot r y n + dot r z n
  | 0 => rfl
  | n + 1 => by unfold dot; rw [dot_add_r r y z n]; grind
/-- sums may be turned -/
theorem dot_turn (a y : Nat → Int) (L : Mat) (k : Nat) : ∀ n, dot (fun j => dot a (fun i => L i j) k) y n = dot a (fun i => dot (L i) y n) k
  | 0 => by
    rw [show (fun i => dot (L i) y 0) = fun i => 0 * (0 : Int) from funext fun i => rfl, dot_mul_r, Int.zero_mul]
    rfl
  | n + 1 => by
    show dot (fun j => dot a (fun i => L i j) k) y n + dot a (fun i => L i n) k * y n = dot a (fun i => dot (L i) y n + L i n * y n) k
    rw [dot_add_r, dot_turn a y L k n, show (fun i => L i n * y n) = fun i => y n * L i n from funext fun i => Int.mul_comm _ _, dot_mul_r]
    grind
def frX (p : Int × Int) : Int × Int := (p.1.fdiv (shr p.1 p.2), p.2.fdiv (shr p.1 p.2))
theorem frX_ok {p : Int × Int} (h : p.2 ≠ 0) : 0 < (frX p).2 ∧ (frX p).1 * p.2 = p.1 * (frX p).2 ∧ (Int.gcd (frX p).1 (frX p).2 : Int) = 1 ∧ (frX p).1.natAbs ≤ p.1.natAbs ∧ (frX p).2.natAbs ≤ p.2.natAbs := by
  obtain ⟨u, v, e, h1, h2, h3, h4, h5⟩ := fr_ex p.1 h
  unfold fr pr at e
  injection e with e
  injection e with e1 e2
  injection e2 with e2 e3
  injection e1 with e1
  injection e2 with e2
  unfold frX
  dsimp only
  rw [e1, e2]
  exact ⟨h1, h2, by rw [h3]; rfl, h4, h5⟩
theorem dot_bnd {A B : Nat} {r y : Nat → Int} : ∀ {n : Nat}, (∀ j, j < n → bnd A (r j)) → (∀ j, j < n → bnd B (y j)) → bnd (A + B + n) (dot r y n)
  | 0, _, _ => bnd_zero
  | n + 1, h1, h2 => by
    unfold dot
    exact bnd_add (k := A + B + n) (dot_bnd (fun j hj => h1 j (by omega)) fun j hj => h2 j (by omega)) (bnd_mono (j := A + B) (bnd_mul (h1 n (by omega)) (h2 n (by omega))) (by omega))
end Dl

/-! The D-layer, part 40: a dict of one's own, its keys tuples of ints. -/
namespace Dl
open PySem PySem.Spec
open PyProof.Rows L2
/-! ### pairs -/
/-! ### the slot -/
section
variable {X : Cx} {W : WX} {e a b c value : Expr} {t ta te : TD} {pos pos' : Pos}
/-! ### list(x.values()) -/
end
end Dl

/-! The D-layer, part 41: rows by lists: what divides all, lowest form, the tidied room (mathematics). -/
namespace Dl
open PySem PySem.Spec
open PyProof.Rows L2
abbrev Rw := List Int × Int
def fL (l : List Int) : Nat → Int := fun j => l.getD j 0
def gcdI (l : List Int) : Int := gcdL (fL l) l.length
def lowI (l : List Int) : List Int := if gcdI l = 0 then l else l.map (·.fdiv (gcdI l))
theorem gcdI_nn (l : List Int) : 0 ≤ gcdI l := gcdL_nn _ _
/-! ### a row's lowest form -/
/-- whether the first row lets less by -/
def narI (r o : Rw) : Bool := decide (r.2 * gcdI o.1 < o.2 * gcdI r.1)
/-! ### the tidied room -/
abbrev TS := List (List Int × Rw) × List Rw
def valR : List (List Int × Rw) → List Int → Option Rw
  | [], _ => none
  | p :: r, k => if p.1 = k then some p.2 else valR r k
def putR (kvs : List (List Int × Rw)) (k : List Int) (y : Rw) : List (List Int × Rw) :=
  if (valR kvs k).isSome = true then kvs.map (fun p => if p.1 = k then (p.1, y) else p) else kvs ++ [(k, y)]
def tstep (st : TS) (r : Rw) : TS :=
  if gcdI r.1 = 0 then (if r.2 < 0 then (st.1, [(r.1, -1)]) else st)
  else match valR st.1 (lowI r.1) with
    | none => (st.1 ++ [(lowI r.1, r)], st.2)
    | some o => if narI r o = true then (putR st.1 (lowI r.1) r, st.2) else st
theorem valR_some {kvs : List (List Int × Rw)} {k : List Int} {o : Rw} (h : valR kvs k = some o) : (k, o) ∈ kvs := by
  induction kvs with
  | nil => cases h
  | cons p r ih =>
    unfold valR at h
    by_cases e : p.1 = k
    · rw [if_pos e] at h
      cases h
      subst e
      exact List.mem_cons_self
    · rw [if_neg e] at h
      exact List.mem_cons_of_mem _ (ih h)
theorem valR_none {kvs : List (List Int × Rw)} {k : List Int} (h : valR kvs k = none) : ∀ p ∈ kvs, p.1 ≠ k := by
  induction kvs with
  | nil => intro p hp; cases hp
  | cons q r ih =>
    unfold valR at h
    by_cases e : q.1 = k
    · rw [if_pos e] at h; cases h
    · rw [if_neg e] at h
      intro p hp
      rcases List.mem_cons.mp hp with rfl | hp
      · exact e
      · exact ih h p hp
theorem valR_of {kvs : List (List Int × Rw)} {k : List Int} {o : Rw} (hn : (kvs.map (·.1)).Nodup) (h : (k, o) ∈ kvs) : valR kvs k = some o := by
  induction kvs with
  | nil => cases h
  | cons p r ih =>
    rw [List.map_cons, List.nodup_cons] at hn
    unfold valR
    rcases List.mem_cons.mp h with e | h
    · subst e; rw [if_pos rfl]
    · rw [if_neg (fun e => hn.1 (List.mem_map.mpr ⟨_, h, e.symm⟩))]
      exact ih hn.2 h
theorem putR_keys {kvs : List (List Int × Rw)} {k : List Int} {o y : Rw} (h : valR kvs k = some o) : (putR kvs k y).map (·.1) = kvs.map (·.1) := by
  unfold putR
  rw [h, if_pos (show (some o).isSome = true from rfl), List.map_map]
  exact List.map_congr_left fun p _ => by
    show (if p.1 = k then (p.1, y) else p).1 = p.1
    split <;> rfl
/-- what the tidied room keeps -/
structure TOk (st : TS) (rl : List Rw) : Prop where
  nd : (st.1.map (·.1)).Nodup
  of : ∀ p ∈ st.1, p.1 = lowI p.2.1 ∧ gcdI p.2.1 ≠ 0 ∧ p.2 ∈ rl
  sh : st.2 = [] ∨ ∃ r ∈ rl, gcdI r.1 = 0 ∧ r.2 < 0 ∧ st.2 = [(r.1, -1)]
  has : ∀ r ∈ rl, gcdI r.1 ≠ 0 → ∃ o, (lowI r.1, o) ∈ st.1 ∧ o.2 * gcdI r.1 ≤ r.2 * gcdI o.1
  shut : ∀ r ∈ rl, gcdI r.1 = 0 → r.2 < 0 → st.2 ≠ []
theorem narI_t {r o : Rw} (h : narI r o = true) : r.2 * gcdI o.1 < o.2 * gcdI r.1 := of_decide_eq_true h
theorem narI_f {r o : Rw} (h : narI r o = false) : o.2 * gcdI r.1 ≤ r.2 * gcdI o.1 := by have := of_decide_eq_false h; omega
theorem TOk.step {st : TS} {rl : List Rw} (t : TOk st rl) (r : Rw) : TOk (tstep st r) (rl ++ [r]) := by
  have inl : ∀ {x : Rw}, x ∈ rl → x ∈ rl ++ [r] := fun h => List.mem_append_left _ h
  have inr : r ∈ rl ++ [r] := List.mem_append_right _ List.mem_cons_self
  have cs : ∀ {x : Rw}, x ∈ rl ++ [r] → x ∈ rl ∨ x = r := fun {x} h => by
    rcases List.mem_append.mp h with h | h
    · exact .inl h
    · exact .inr (List.mem_singleton.mp h)
  have sh1 : st.2 = [] ∨ ∃ x ∈ rl ++ [r], gcdI x.1 = 0 ∧ x.2 < 0 ∧ st.2 = [(x.1, -1)] := t.sh.elim .inl fun ⟨x, h, q⟩ => .inr ⟨x, inl h, q⟩
  unfold tstep
  by_cases h0 : gcdI r.1 = 0
  · rw [if_pos h0]
    by_cases hb : r.2 < 0
    · rw [if_pos hb]
      refine ⟨t.nd, fun p hp => ?_, .inr ⟨r, inr, h0, hb, rfl⟩, fun x hx hg => ?_, fun _ _ _ _ z => nomatch (show [(r.1, -1)] = ([] : List Rw) from z)⟩
      · obtain ⟨a, b, c⟩ := t.of p hp; exact ⟨a, b, inl c⟩
      · rcases cs hx with hx | rfl
        · exact t.has x hx hg
        · exact absurd h0 hg
    · rw [if_neg hb]
      refine ⟨t.nd, fun p hp => ?_, sh1, fun x hx hg => ?_, fun x hx hg hz => ?_⟩
      · obtain ⟨a, b, c⟩ := t.of p hp; exact ⟨a, b, inl c⟩
      · rcases cs hx with hx | rfl
        · exact t.has x hx hg
        · exact absurd h0 hg
      · rcases cs hx with hx | rfl
        · exact t.shut x hx hg hz
        · exact absurd hz hb
  · rw [if_neg h0]
    have shut1 : ∀ x ∈ rl ++ [r], gcdI x.1 = 0 → x.2 < 0 → st.2 ≠ [] := fun x hx hg hz => by
      rcases cs hx with hx | rfl
      · exact t.shut x hx hg hz
      · exact absurd hg h0
    cases hv : valR st.1 (lowI r.1) with
    | none =>
      dsimp only
      refine ⟨?_, fun p hp => ?_, sh1, fun x hx hg => ?_, shut1⟩
      · rw [List.map_append, List.nodup_append]
        refine ⟨t.nd, List.nodup_cons.mpr ⟨List.not_mem_nil, List.nodup_nil⟩, fun a ha b hb => ?_⟩
        obtain ⟨p, hp, rfl⟩ := List.mem_map.mp ha
        rw [List.mem_singleton.mp hb]
        exact valR_none hv p hp
      · rcases List.mem_append.mp hp with hp | hp
        · obtain ⟨a, b, c⟩ := t.of p hp; exact ⟨a, b, inl c⟩
        · rw [List.mem_singleton.mp hp]
          exact ⟨rfl, h0, inr⟩
      · rcases cs hx with hx | rfl
        · obtain ⟨o, a, b⟩ := t.has x hx hg
          exact ⟨o, List.mem_append_left _ a, b⟩
        · exact ⟨x, List.mem_append_right _ List.mem_cons_self, Int.le_refl _⟩
    | some o =>
      dsimp only
      have ho := valR_some hv
      obtain ⟨o1, o2, o3⟩ := t.of _ ho
      have o2 : gcdI o.1 ≠ 0 := o2
      cases hn : narI r o with
      | false =>
        rw [if_neg Bool.false_ne_true]
        refine ⟨t.nd, fun p hp => ?_, sh1, fun x hx hg => ?_, shut1⟩
        · obtain ⟨a, b, c⟩ := t.of p hp; exact ⟨a, b, inl c⟩
        · rcases cs hx with hx | rfl
          · exact t.has x hx hg
          · exact ⟨o, ho, narI_f hn⟩
      | true =>
        rw [if_pos rfl]
        refine ⟨?_, fun p hp => ?_, sh1, fun x hx hg => ?_, shut1⟩
        · show ((putR st.1 (lowI r.1) r).map (·.1)).Nodup
          rw [putR_keys hv]; exact t.nd
        · have hp : p ∈ putR st.1 (lowI r.1) r := hp
          unfold putR at hp
          rw [hv, if_pos (show (some o).isSome = true from rfl)] at hp
          obtain ⟨q, hq, rfl⟩ := List.mem_map.mp hp
          by_cases e : q.1 = lowI r.1
          · rw [if_pos e]; exact ⟨e, h0, inr⟩
          · rw [if_neg e]; obtain ⟨a, b, c⟩ := t.of q hq; exact ⟨a, b, inl c⟩
        · have hr : (lowI r.1, r) ∈ putR st.1 (lowI r.1) r := by
            unfold putR
            rw [hv, if_pos (show (some o).isSome = true from rfl)]
            exact List.mem_map.mpr ⟨_, ho, by rw [if_pos rfl]⟩
          rcases cs hx with hx | rfl
          · obtain ⟨o', a, b⟩ := t.has x hx hg
            by_cases e : lowI x.1 = lowI r.1
            · refine ⟨r, e ▸ hr, ?_⟩
              have e2 : o' = o := by
                have := valR_of t.nd a
                rw [e, hv] at this
                cases this; rfl
              subst e2
              have hn := narI_t hn
              have g0 : 0 < gcdI o'.1 := by have := gcdI_nn o'.1; omega
              have g1 : 0 < gcdI x.1 := by have := gcdI_nn x.1; omega
              have g2 : 0 < gcdI r.1 := by have := gcdI_nn r.1; omega
              have s1 := Int.mul_le_mul_of_nonneg_left (Int.le_of_lt hn) (Int.le_of_lt g1)
              have s2 := Int.mul_le_mul_of_nonneg_left b (Int.le_of_lt g2)
              refine Int.le_of_mul_le_mul_left (a := gcdI o'.1) ?_ g0
              have e1 : gcdI o'.1 * (r.2 * gcdI x.1) = gcdI x.1 * (r.2 * gcdI o'.1) := by grind
              have e2 : gcdI x.1 * (o'.2 * gcdI r.1) = gcdI r.1 * (o'.2 * gcdI x.1) := by grind
              have e3 : gcdI r.1 * (x.2 * gcdI o'.1) = gcdI o'.1 * (x.2 * gcdI r.1) := by grind
              rw [e1, ← e3]
              exact Int.le_trans s1 (by rw [e2]; exact s2)
            · refine ⟨o', ?_, b⟩
              show _ ∈ putR st.1 (lowI r.1) r
              unfold putR
              rw [hv, if_pos (show (some o).isSome = true from rfl)]
              exact List.mem_map.mpr ⟨_, a, by rw [if_neg e]⟩
          · exact ⟨x, hr, Int.le_refl _⟩
/-! ### tidied again -/
/-! ### points -/
end Dl

/-! The D-layer, part 42: direction, narrower, tidied. -/
namespace Dl
open PySem PySem.Spec
open PyProof.Rows L2
end Dl

/-! The D-layer, part 43: what the laws draw: numbers, boxes, rows of boxes. -/
namespace Dl
open PySem PySem.Spec
open PyProof.Rows L2
/-! ### of use everywhere -/
theorem compL_fun {α : Type} {g : DG} {tt : TDb} {te : TD} {ρ : Env'} {Q : List D → Prop} (f F : α → D) (xs : List α)
    (h : ∀ x ∈ xs, ∀ (K1 : D → Prop) (K0 : Prop), K1 (F x) → g (f x) ρ fun ρ2 => tt ρ2 (fun b => ifP b (te ρ2 K1 (fun _ => False)) K0) fun _ => False)
    (q : Q (xs.map F)) : compL g tt te ρ Q (xs.map f) [] := by
  have go : ∀ (xs : List α) (acc : List D), (∀ x ∈ xs, ∀ (K1 : D → Prop) (K0 : Prop), K1 (F x) → g (f x) ρ fun ρ2 => tt ρ2 (fun b => ifP b (te ρ2 K1 (fun _ => False)) K0) fun _ => False) →
      Q (acc ++ xs.map F) → compR g tt te ρ Q (xs.map f) acc := by
    intro xs
    induction xs with
    | nil => intro acc _ q; rw [List.map_nil, List.append_nil] at q; exact q
    | cons x xs ih =>
      intro acc h q
      refine h x List.mem_cons_self _ _ (ih _ (fun e he => h e (List.mem_cons_of_mem _ he)) ?_)
      rw [List.append_assoc]
      exact q
  exact ⟨go xs [] h q⟩
theorem compL_fil {α : Type} {g : DG} {tt : TDb} {te : TD} {ρ : Env'} {Q : List D → Prop} (f F : α → D) (p : α → Bool) (xs : List α)
    (h : ∀ x ∈ xs, ∀ (K1 : D → Prop) (K0 : Prop), (p x = true → K1 (F x)) → (p x = false → K0) → g (f x) ρ fun ρ2 => tt ρ2 (fun b => ifP b (te ρ2 K1 (fun _ => False)) K0) fun _ => False)
    (q : Q ((xs.filter p).map F)) : compL g tt te ρ Q (xs.map f) [] := by
  have go : ∀ (xs : List α) (acc : List D), (∀ x ∈ xs, ∀ (K1 : D → Prop) (K0 : Prop), (p x = true → K1 (F x)) → (p x = false → K0) → g (f x) ρ fun ρ2 => tt ρ2 (fun b => ifP b (te ρ2 K1 (fun _ => False)) K0) fun _ => False) →
      Q (acc ++ (xs.filter p).map F) → compR g tt te ρ Q (xs.map f) acc := by
    intro xs
    induction xs with
    | nil => intro acc _ q; rw [List.filter_nil, List.map_nil, List.append_nil] at q; exact q
    | cons x xs ih =>
      intro acc h q
      refine h x List.mem_cons_self _ _ (fun hp => ih _ (fun e he => h e (List.mem_cons_of_mem _ he)) ?_) (fun hp => ih _ (fun e he => h e (List.mem_cons_of_mem _ he)) ?_)
      · rw [List.filter_cons_of_pos hp] at q
        rw [List.append_assoc]
        exact q
      · rw [List.filter_cons_of_neg (by rw [hp]; exact Bool.false_ne_true)] at q
        exact q
  exact ⟨go xs [] h q⟩
/-! ### boxes -/
end Dl

/-! The D-layer, part 44: modes and things drawn. -/
namespace Dl
open PySem PySem.Spec
open PyProof.Rows L2
theorem rep_tab (n : Nat) (x : Int) : (List.replicate n [D.int x]).flatten = tabD n fun _ => x := by
  rw [List.flatten_replicate_singleton]
  unfold tabD
  rw [List.map_const', List.length_range]
structure okSM (m : Md) : Prop where
  nexts : ∀ i j, bnd 3 (m.nexts i j)
  push : ∀ i j, bnd 2 (m.push i j)
  add : ∀ i, bnd 103 (m.add i)
  div : 2 ≤ m.div ∧ m.div ≤ 5
  steer : m.steer = fun _ => 0
  rows : ∀ r ∈ m.rows, ∀ j, bnd 103 (r j)
/-! ### things drawn -/
structure okSpec (n : Nat) (ps : List (Int × Int)) (ms : List Md) (u : Int) : Prop where
  n1 : 1 ≤ n
  n3 : n ≤ 3
  pl : ps.length ≤ 2
  pb : ∀ p ∈ ps, p.1 ≤ 0 ∧ 0 ≤ p.2 ∧ bnd 103 p.1 ∧ bnd 103 p.2
  ml : 1 ≤ ms.length ∧ ms.length ≤ 3
  mo : ∀ m ∈ ms, okSM m
  sp : (∀ m ∈ ms, m.rows = []) ∨ ∀ m ∈ ms, ∃ r, m.rows = [r]
  u1 : 1 ≤ u
  u2 : u ≤ 10 ^ 30
end Dl

/-! The D-layer, part 45: right things made. -/
namespace Dl
open PySem PySem.Spec
open PyProof.Rows L2
theorem kn_lst (l : List D) : knD (.lst l) := ⟨(fun z => nomatch z), (fun _ z => nomatch z)⟩
theorem kn_tup (l : List D) : knD (.tup l) := ⟨(fun z => nomatch z), (fun _ z => nomatch z)⟩
theorem kw_tab (n : Nat) (r : Nat → Int) : kw (.lst (tabD n r)) := ⟨kn_lst _, fun xs e x hx => by
  have e : tabD n r = xs := by rcases e with e | e <;> cases e; rfl
  subst e
  obtain ⟨i, hi⟩ := List.getElem?_of_mem hx
  rw [(tab_inv hi).2]
  exact fun z => nomatch z⟩
theorem kw_row (n : Nat) (r : Nat → Int) : kw (rowW n r) := ⟨kn_tup _, fun xs e x hx => by
  have e : tabD n r = xs := by rcases e with e | e <;> cases e; rfl
  subst e
  obtain ⟨i, hi⟩ := List.getElem?_of_mem hx
  rw [(tab_inv hi).2]
  exact fun z => nomatch z⟩
theorem kws_rows (w : Nat) (rs : List (Nat → Int)) : kws (.lst (rs.map (rowW w))) := ⟨kn_lst _, fun xs e x hx => by cases e; obtain ⟨r, _, rfl⟩ := List.mem_map.mp hx; exact kw_row _ _⟩
theorem kws_lstL (n w : Nat) (R : Mat) : kws (.lst (lstL n w R)) := ⟨kn_lst _, fun xs e x hx => by cases e; obtain ⟨i, hi⟩ := List.getElem?_of_mem hx; rw [(rng_inv hi).2]; exact kw_tab _ _⟩
theorem wh_tab (n : Nat) (r : Nat → Int) : (tabD n r).all isWhB = true := by
  rw [List.all_eq_true]
  intro d hd
  obtain ⟨i, hi⟩ := List.getElem?_of_mem hd
  rw [(tab_inv hi).2]
  rfl
theorem aw_tab (n : Nat) (r : Nat → Int) : awB (.lst (tabD n r)) n = true := by
  show (decide (((tabD n r).length : Int) = (n : Int)) && (tabD n r).all isWhB) = true
  rw [tab_len, wh_tab, decide_eq_true rfl]
  rfl
theorem rw_row (n : Nat) (r : Nat → Int) : rwB (rowW (n + 1) r) n = true := by
  show (decide (((tabD (n + 1) r).length : Int) = (n : Int) + 1) && (tabD (n + 1) r).all isWhB) = true
  rw [tab_len, wh_tab, decide_eq_true (by omega)]
  rfl
theorem rm_rows (n : Nat) (rs : List (Nat → Int)) : rmB (.lst (rs.map (rowW (n + 1)))) n = true := by
  show (rs.map (rowW (n + 1))).all (fun r => rwB r n) = true
  rw [List.all_eq_true]
  intro d hd
  obtain ⟨r, _, rfl⟩ := List.mem_map.mp hd
  exact rw_row n r
theorem tb_lstL (n w : Nat) (R : Mat) : tbB (.lst (lstL n w R)) n w = true := by
  show (decide (((lstL n w R).length : Int) = (n : Int)) && (lstL n w R).all fun r => awB r w) = true
  rw [lstL_len, decide_eq_true rfl, Bool.true_and, List.all_eq_true]
  intro d hd
  obtain ⟨i, hi⟩ := List.getElem?_of_mem hd
  rw [(rng_inv hi).2]
  exact aw_tab w _
theorem kM_md (CM : Addr) (n p : Nat) (m : Md) : kM CM (mdI CM n p m) := .inl ⟨_, _, _, _, _, _, rfl, kws_rows _ _, kws_lstL _ _ _, kw_tab _ _, kws_lstL _ _ _, kw_tab _ _, fun z => nomatch z⟩
theorem mdB_md (CM : Addr) (n p : Nat) (m : Md) (hd : 1 ≤ m.div) : mdB CM (mdI CM n p m) n p = true := by
  show (decide (CM = CM) && (rmB (.lst (m.rows.map (rowW (n + 1)))) n && tbB (.lst (lstL n n m.nexts)) n n && awB (.lst (tabD n m.steer)) n && tbB (.lst (lstL n p m.push)) n p && awB (.lst (tabD n m.add)) n && dvB (.int m.div))) = true
  rw [rm_rows, tb_lstL, aw_tab, tb_lstL, aw_tab, decide_eq_true rfl, show dvB (.int m.div) = true from decide_eq_true hd]
  rfl
theorem kPs_pD (ps : List (Int × Int)) : kPs (.lst (ps.map pD)) := ⟨kn_lst _, fun xs e x hx => by
  cases e
  obtain ⟨q, _, rfl⟩ := List.mem_map.mp hx
  exact ⟨kn_tup _, fun a b e => by cases e; exact ⟨(fun z => nomatch z), (fun z => nomatch z)⟩⟩⟩
theorem psB_pD (ps : List (Int × Int)) (h : ∀ q ∈ ps, q.1 ≤ q.2) : psB' (.lst (ps.map pD)) = true := by
  show (ps.map pD).all psB = true
  rw [List.all_eq_true]
  intro d hd
  obtain ⟨q, hq, rfl⟩ := List.mem_map.mp hd
  exact decide_eq_true (h q hq)
theorem list_copy (n w : Nat) (R : Mat) : ∀ d ∈ lstL n w R, ∃ i, i < n ∧ d = .lst (tabD w (R i)) := fun d hd => by
  obtain ⟨i, hi⟩ := List.getElem?_of_mem hd
  exact ⟨i, (rng_inv hi).1, (rng_inv hi).2⟩
end Dl

/-! The D-layer, part 46: list(range(n)). -/
namespace Dl
open PySem PySem.Spec
open PyProof.Rows L2
section
variable {X : Cx} {W : WX} {a : Expr} {ta : TD}
end
end Dl

/-! Linear inequalities over the rationals, part 1: a system has a point, or a sum of its rows shows that it has none. -/
namespace Lp
abbrev V := Nat → Rat
abbrev Row := V × Rat
def qd (a x : V) : Nat → Rat
  | 0 => 0
  | n + 1 => qd a x n + a n * x n
theorem qd_congr {a b x y : V} : ∀ {n : Nat}, (∀ j, j < n → a j = b j) → (∀ j, j < n → x j = y j) → qd a x n = qd b y n
  | 0, _, _ => rfl
  | n + 1, h, k => by
    unfold qd
    rw [qd_congr (n := n) (fun j hj => h j (by omega)) fun j hj => k j (by omega), h n (by omega), k n (by omega)]
theorem qd_lin (c : Rat) (a b x : V) : ∀ n, qd (fun j => c * a j + b j) x n = c * qd a x n + qd b x n
  | 0 => by unfold qd; grind
  | n + 1 => by unfold qd; rw [qd_lin c a b x n]; grind
theorem qd_lin_r (c : Rat) (a x y : V) : ∀ n, qd a (fun j => x j + c * y j) n = qd a x n + c * qd a y n
  | 0 => by unfold qd; grind
  | n + 1 => by unfold qd; rw [qd_lin_r c a x y n]; grind
theorem qd_zero {a x : V} : ∀ {n : Nat}, (∀ j, j < n → a j = 0) → qd a x n = 0
  | 0, _ => rfl
  | n + 1, h => by unfold qd; rw [qd_zero (n := n) fun j hj => h j (by omega), h n (by omega)]; grind
def hold (n : Nat) (r : Row) (x : V) : Prop := qd r.1 x n ≤ r.2
def cmb (c : Rat) (r s : Row) : Row := (fun j => c * r.1 j + s.1 j, c * r.2 + s.2)
/-- sums of rows, each so many times, none a negative number of times -/
inductive Nn (L : List Row) : Row → Prop
  | zero : Nn L (fun _ => 0, 0)
  | add {c : Rat} {r s : Row} : r ∈ L → 0 ≤ c → Nn L s → Nn L (cmb c r s)
theorem Nn.eq {L : List Row} {s t : Row} (h : Nn L s) (e1 : s.1 = t.1) (e2 : s.2 = t.2) : Nn L t := by
  have : s = t := Prod.ext e1 e2
  exact this ▸ h
theorem Nn.plus {L : List Row} {s t : Row} (h : Nn L s) (k : Nn L t) : Nn L (fun j => s.1 j + t.1 j, s.2 + t.2) := by
  induction h with
  | zero => exact k.eq (funext fun j => by show t.1 j = 0 + t.1 j; grind) (by show t.2 = 0 + t.2; grind)
  | add hr hc hs ih => exact (Nn.add hr hc ih).eq (funext fun j => by unfold cmb; dsimp only; grind) (by unfold cmb; dsimp only; grind)
theorem Nn.scale {L : List Row} {s : Row} {c : Rat} (hc : 0 ≤ c) (h : Nn L s) : Nn L (fun j => c * s.1 j, c * s.2) := by
  induction h with
  | zero => exact Nn.zero.eq (funext fun j => by show 0 = c * 0; grind) (by show 0 = c * 0; grind)
  | @add d r s hr hd hs ih =>
    exact (Nn.add (c := c * d) hr (Rat.mul_nonneg hc hd) ih).eq (funext fun j => by unfold cmb; dsimp only; grind) (by unfold cmb; dsimp only; grind)
theorem Nn.mem {L : List Row} {r : Row} (h : r ∈ L) : Nn L r :=
  (Nn.add (c := 1) h (by decide) Nn.zero).eq (funext fun j => by unfold cmb; dsimp only; grind) (by unfold cmb; dsimp only; grind)
theorem Nn.trans {L L' : List Row} {s : Row} (h : Nn L' s) (k : ∀ r ∈ L', Nn L r) : Nn L s := by
  induction h with
  | zero => exact .zero
  | @add c r s hr hc hs ih => exact ((Nn.scale hc (k r hr)).plus ih).eq rfl rfl
theorem Nn.at_zero {L : List Row} {s : Row} {j : Nat} (h : Nn L s) (k : ∀ r ∈ L, r.1 j = 0) : s.1 j = 0 := by
  induction h with
  | zero => rfl
  | @add c r s hr hc hs ih => unfold cmb; dsimp only; rw [k r hr, ih]; grind
/-- what holds all rows holds their sums -/
theorem Nn.holds {L : List Row} {s : Row} {n : Nat} {x : V} (h : Nn L s) (k : ∀ r ∈ L, hold n r x) : hold n s x := by
  induction h with
  | zero => unfold hold; rw [qd_zero fun _ _ => rfl]; exact Rat.le_refl
  | @add c r s hr hc hs ih =>
    unfold hold cmb at *
    dsimp only
    rw [qd_lin]
    have h1 := Rat.mul_le_mul_of_nonneg_left (k r hr) hc
    grind
/-- between lower and upper numbers there is one -/
theorem top_of : ∀ (l : List Rat), l ≠ [] → ∃ m ∈ l, ∀ x ∈ l, x ≤ m
  | [x], _ => ⟨x, List.mem_cons_self, fun y hy => by rw [List.mem_singleton.mp hy]; exact Rat.le_refl⟩
  | x :: y :: l, _ => by
    obtain ⟨m, hm, h⟩ := top_of (y :: l) (fun z => nomatch z)
    by_cases e : x ≤ m
    · exact ⟨m, List.mem_cons_of_mem _ hm, fun z hz => (List.mem_cons.mp hz).elim (fun q => q ▸ e) (h z)⟩
    · exact ⟨x, List.mem_cons_self, fun z hz => (List.mem_cons.mp hz).elim (fun q => by rw [q]; exact Rat.le_refl) fun q => by have := h z q; grind⟩
theorem low_of (l : List Rat) (h : l ≠ []) : ∃ m ∈ l, ∀ x ∈ l, m ≤ x := by
  obtain ⟨m, hm, k⟩ := top_of (l.map (- ·)) (fun z => h (List.map_eq_nil_iff.mp z))
  obtain ⟨y, hy, rfl⟩ := List.mem_map.mp hm
  exact ⟨y, hy, fun x hx => by have := k (-x) (List.mem_map.mpr ⟨x, hx, rfl⟩); grind⟩
theorem between (ls us : List Rat) (h : ∀ l ∈ ls, ∀ u ∈ us, l ≤ u) : ∃ t, (∀ l ∈ ls, l ≤ t) ∧ ∀ u ∈ us, t ≤ u := by
  by_cases e : ls = []
  · subst e
    by_cases f : us = []
    · subst f; exact ⟨0, (fun l hl => nomatch hl), (fun u hu => nomatch hu)⟩
    · obtain ⟨m, hm, k⟩ := low_of us f
      exact ⟨m, (fun l hl => nomatch hl), k⟩
  · obtain ⟨m, hm, k⟩ := top_of ls e
    exact ⟨m, k, fun u hu => h m hm u hu⟩
def fmL (n : Nat) (L : List Row) : List Row :=
  L.filter (fun r => decide (r.1 n = 0)) ++ (L.filter fun r => decide (0 < r.1 n)).flatMap fun p => (L.filter fun r => decide (r.1 n < 0)).map fun q =>
    (fun j => p.1 n * q.1 j + -(q.1 n) * p.1 j, p.1 n * q.2 + -(q.1 n) * p.2)
theorem fmL_nn {n : Nat} {L : List Row} : ∀ r ∈ fmL n L, Nn L r ∧ r.1 n = 0 := fun r hr => by
  unfold fmL at hr
  rcases List.mem_append.mp hr with hr | hr
  · obtain ⟨h1, h2⟩ := List.mem_filter.mp hr
    exact ⟨.mem h1, of_decide_eq_true h2⟩
  · obtain ⟨p, hp, hr⟩ := List.mem_flatMap.mp hr
    obtain ⟨q, hq, rfl⟩ := List.mem_map.mp hr
    obtain ⟨p1, p2⟩ := List.mem_filter.mp hp
    obtain ⟨q1, q2⟩ := List.mem_filter.mp hq
    have p2 := of_decide_eq_true p2
    have q2 := of_decide_eq_true q2
    refine ⟨((Nn.scale (c := p.1 n) (by grind) (.mem q1)).plus (Nn.scale (c := -(q.1 n)) (by grind) (.mem p1))), ?_⟩
    dsimp only
    grind
theorem fm_arith {a b c d f g u v : Rat} (hh : d * a + -c * b ≤ d * f + -c * g) (e1 : u * c = f - a) (e3 : v * d = g - b) (hc : c < 0) (hd : 0 < d) : u ≤ v := by
  refine Classical.byContradiction fun z => ?_
  have z : 0 < u - v := by grind
  have m : 0 < (u - v) * (d * -c) := Rat.mul_pos z (Rat.mul_pos hd (by grind))
  have k : d * (f - a) + -c * (g - b) = -((u - v) * (d * -c)) := by rw [← e1, ← e3]; grind
  grind
theorem fmL_point {n : Nat} {L : List Row} {x : V} (h : ∀ r ∈ fmL n L, hold n r x) : ∃ t, ∀ r ∈ L, qd r.1 x n + r.1 n * t ≤ r.2 := by
  obtain ⟨t, h1, h2⟩ := between ((L.filter fun r => decide (r.1 n < 0)).map fun q => (q.2 - qd q.1 x n) / q.1 n) ((L.filter fun r => decide (0 < r.1 n)).map fun p => (p.2 - qd p.1 x n) / p.1 n) (fun l hl u hu => by
    obtain ⟨q, hq, rfl⟩ := List.mem_map.mp hl
    obtain ⟨p, hp, rfl⟩ := List.mem_map.mp hu
    have hh := h _ (List.mem_append_right _ (List.mem_flatMap.mpr ⟨p, hp, List.mem_map.mpr ⟨q, hq, rfl⟩⟩))
    have p2 : 0 < p.1 n := of_decide_eq_true (List.mem_filter.mp hp).2
    have q2 : q.1 n < 0 := of_decide_eq_true (List.mem_filter.mp hq).2
    unfold hold at hh
    dsimp only at hh
    rw [qd_lin (p.1 n) q.1 (fun j => -(q.1 n) * p.1 j) x n] at hh
    have e : qd (fun j => -(q.1 n) * p.1 j) x n = -(q.1 n) * qd p.1 x n := by
      have := qd_lin (-(q.1 n)) p.1 (fun _ => 0) x n
      rw [qd_zero (a := fun _ => 0) fun _ _ => rfl] at this
      have e2 : (fun j => -(q.1 n) * p.1 j + (fun _ => (0 : Rat)) j) = fun j => -(q.1 n) * p.1 j := funext fun j => by dsimp only; grind
      rw [e2] at this
      grind
    rw [e] at hh
    generalize qd q.1 x n = a at *
    generalize qd p.1 x n = b at *
    generalize q.1 n = c at *
    generalize p.1 n = d at *
    generalize q.2 = f at *
    generalize p.2 = g at *
    -- d (f - a) >= -c (b - g) .. over c, d
    have e1 : (f - a) / c * c = f - a := by grind
    have e3 : (g - b) / d * d = g - b := by grind
    exact fm_arith hh e1 e3 q2 p2)
  refine ⟨t, fun r hr => ?_⟩
  by_cases e : r.1 n = 0
  · have := h r (List.mem_append_left _ (List.mem_filter.mpr ⟨hr, decide_eq_true e⟩))
    unfold hold at this
    rw [e]
    grind
  by_cases f : 0 < r.1 n
  · have := h2 _ (List.mem_map.mpr ⟨r, List.mem_filter.mpr ⟨hr, decide_eq_true f⟩, rfl⟩)
    have m := Rat.mul_le_mul_of_nonneg_left this (c := r.1 n) (by grind)
    have e1 : r.1 n * ((r.2 - qd r.1 x n) / r.1 n) = r.2 - qd r.1 x n := by grind
    grind
  · have f : r.1 n < 0 := by grind
    have := h1 _ (List.mem_map.mpr ⟨r, List.mem_filter.mpr ⟨hr, decide_eq_true f⟩, rfl⟩)
    have m := Rat.mul_le_mul_of_nonneg_left this (c := -(r.1 n)) (by grind)
    have e1 : r.1 n * ((r.2 - qd r.1 x n) / r.1 n) = r.2 - qd r.1 x n := by grind
    grind
/-- a system has a point, or a sum of its rows shows that it has none -/
theorem farkas : ∀ (n : Nat) (L : List Row), (∃ x : V, ∀ r ∈ L, hold n r x) ∨ ∃ s : Row, Nn L s ∧ (∀ j, j < n → s.1 j = 0) ∧ s.2 < 0
  | 0, L => by
    by_cases h : ∀ r ∈ L, 0 ≤ r.2
    · exact .inl ⟨fun _ => 0, fun r hr => h r hr⟩
    · obtain ⟨r, hr⟩ := Classical.not_forall.mp h
      obtain ⟨h1, h2⟩ := Classical.not_imp.mp hr
      exact .inr ⟨r, .mem h1, (fun j hj => absurd hj (Nat.not_lt_zero j)), by grind⟩
  | n + 1, L => by
    rcases farkas n (fmL n L) with ⟨x, hx⟩ | ⟨s, h1, h2, h3⟩
    · obtain ⟨t, ht⟩ := fmL_point hx
      refine .inl ⟨fun j => if j = n then t else x j, fun r hr => ?_⟩
      unfold hold qd
      rw [qd_congr (b := r.1) (y := x) (fun _ _ => rfl) fun j hj => by rw [if_neg (by omega)], if_pos rfl]
      exact ht r hr
    · refine .inr ⟨s, h1.trans fun r hr => (fmL_nn r hr).1, fun j hj => ?_, h3⟩
      by_cases e : j = n
      · rw [e]; exact h1.at_zero fun r hr => (fmL_nn r hr).2
      · exact h2 j (by omega)
end Lp

/-! Linear inequalities over the rationals, part 2: shares by place; fewest shares. -/
namespace Lp
/-- m rows over n numbers, their bounds -/
structure Sys where
  m : Nat
  n : Nat
  A : Nat → V
  b : V
def Sys.feas (S : Sys) (x : V) : Prop := ∀ k, k < S.m → qd (S.A k) x S.n ≤ S.b k
/-- what shares come to at a place, and their bound -/
def Sys.at (S : Sys) (y : V) (j : Nat) : Rat := qd y (fun k => S.A k j) S.m
def Sys.cost (S : Sys) (y : V) : Rat := qd y S.b S.m
theorem qd_upd {y a : V} {c : Rat} {i : Nat} : ∀ {m : Nat}, qd (fun k => if k = i then c + y k else y k) a m = qd y a m + if i < m then c * a i else 0
  | 0 => by rw [if_neg (Nat.not_lt_zero i)]; unfold qd; grind
  | m + 1 => by
    unfold qd
    rw [qd_upd (m := m)]
    by_cases e : m = i
    · subst e
      rw [if_pos rfl, if_neg (Nat.lt_irrefl m), if_pos (Nat.lt_succ_self m)]
      grind
    · rw [if_neg e]
      by_cases h : i < m
      · rw [if_pos h, if_pos (by omega)]; grind
      · rw [if_neg h, if_neg (by omega)]; grind
def Sys.rows (S : Sys) : List Row := (List.range S.m).map fun k => (S.A k, S.b k)
theorem nn_shares {S : Sys} {s : Row} (h : Nn S.rows s) : ∃ y : V, (∀ k, 0 ≤ y k) ∧ (∀ j, s.1 j = S.at y j) ∧ s.2 = S.cost y := by
  induction h with
  | zero => exact ⟨fun _ => 0, fun _ => Rat.le_refl, fun j => (qd_zero fun _ _ => rfl).symm, (qd_zero fun _ _ => rfl).symm⟩
  | @add c r s hr hc hs ih =>
    obtain ⟨y, h1, h2, h3⟩ := ih
    obtain ⟨i, hi, rfl⟩ := List.mem_map.mp hr
    have hi := List.mem_range.mp hi
    refine ⟨fun k => if k = i then c + y k else y k, fun k => ?_, fun j => ?_, ?_⟩
    · dsimp only
      split
      · have := h1 k; grind
      · exact h1 k
    · unfold Sys.at
      rw [qd_upd, if_pos hi]
      unfold cmb
      have := h2 j
      unfold Sys.at at this
      dsimp only
      grind
    · unfold Sys.cost
      rw [qd_upd, if_pos hi]
      unfold cmb
      unfold Sys.cost at h3
      dsimp only
      grind
/-- a system has a point, or shares show that it has none -/
theorem Sys.farkas (S : Sys) : (∃ x, S.feas x) ∨ ∃ y : V, (∀ k, 0 ≤ y k) ∧ (∀ j, j < S.n → S.at y j = 0) ∧ S.cost y < 0 := by
  rcases Lp.farkas S.n S.rows with ⟨x, hx⟩ | ⟨s, h1, h2, h3⟩
  · exact .inl ⟨x, fun k hk => hx (S.A k, S.b k) (List.mem_map.mpr ⟨k, List.mem_range.mpr hk, rfl⟩)⟩
  · obtain ⟨y, y1, y2, y3⟩ := nn_shares h1
    exact .inr ⟨y, y1, fun j hj => by rw [← y2 j]; exact h2 j hj, by rw [← y3]; exact h3⟩
/-- the sum of what the rows come to is what their sum comes to -/
theorem at_turn (S : Sys) (y x : V) : ∀ m n, qd (fun j => qd y (fun k => S.A k j) m) x n = qd y (fun k => qd (S.A k) x n) m
  | 0, n => by
    rw [qd_zero (a := fun j => qd y (fun k => S.A k j) 0) fun j _ => rfl]
    rfl
  | m + 1, n => by
    have ih := at_turn S y x m n
    have e : (fun j => qd y (fun k => S.A k j) (m + 1)) = fun j => y m * S.A m j + qd y (fun k => S.A k j) m := funext fun j => by
      show qd y (fun k => S.A k j) m + y m * S.A m j = _
      grind
    rw [e, qd_lin, ih]
    show _ = qd y (fun k => qd (S.A k) x n) m + y m * qd (S.A m) x n
    grind
theorem qd_le {y a b : V} : ∀ {m : Nat}, (∀ k, k < m → 0 ≤ y k) → (∀ k, k < m → a k ≤ b k) → qd y a m ≤ qd y b m
  | 0, _, _ => Rat.le_refl
  | m + 1, h1, h2 => by
    unfold qd
    have ih := qd_le (m := m) (fun k hk => h1 k (by omega)) fun k hk => h2 k (by omega)
    have := Rat.mul_le_mul_of_nonneg_left (h2 m (by omega)) (h1 m (by omega))
    grind
/-- shares' sum at a point is no more than their bound -/
theorem Sys.weak {S : Sys} {x y : V} (hx : S.feas x) (hy : ∀ k, k < S.m → 0 ≤ y k) : qd (S.at y) x S.n ≤ S.cost y := by
  have := at_turn S y x S.m S.n
  unfold Sys.at
  rw [this]
  exact qd_le hy hx
/-! ### fewest shares -/
def cnt (y : V) (m : Nat) : Nat := ((List.range m).filter fun k => decide (y k ≠ 0)).length
theorem cnt_lt {y z : V} {m i : Nat} (h : ∀ k, k < m → z k ≠ 0 → y k ≠ 0) (hi : i < m) (h1 : y i ≠ 0) (h2 : z i = 0) : cnt z m < cnt y m := by
  unfold cnt
  rw [← List.countP_eq_length_filter, ← List.countP_eq_length_filter]
  have le : ∀ l : List Nat, (∀ k ∈ l, k < m) → List.countP (fun k => decide (z k ≠ 0)) l ≤ List.countP (fun k => decide (y k ≠ 0)) l := fun l hl =>
    List.countP_mono_left fun k hk hz => decide_eq_true (h k (hl k hk) (of_decide_eq_true hz))
  have : ∀ l : List Nat, (∀ k ∈ l, k < m) → i ∈ l → List.countP (fun k => decide (z k ≠ 0)) l < List.countP (fun k => decide (y k ≠ 0)) l := by
    intro l
    induction l with
    | nil => intro _ hil; cases hil
    | cons k l ih =>
      intro hl hil
      by_cases e : k = i
      · subst e
        have := le l fun q hq => hl q (List.mem_cons_of_mem _ hq)
        rw [List.countP_cons, List.countP_cons, if_neg (by rw [decide_eq_false (fun n => n h2)]; exact Bool.false_ne_true), if_pos (decide_eq_true h1)]
        omega
      · have ih := ih (fun q hq => hl q (List.mem_cons_of_mem _ hq)) (by rcases List.mem_cons.mp hil with q | q; exact absurd q.symm e; exact q)
        rw [List.countP_cons, List.countP_cons]
        by_cases hz : z k = 0
        · rw [if_neg (by rw [decide_eq_false (fun n => n hz)]; exact Bool.false_ne_true)]
          omega
        · rw [if_pos (decide_eq_true hz), if_pos (decide_eq_true (h k (hl k List.mem_cons_self) hz))]
          omega
  exact this _ (fun k hk => List.mem_range.mp hk) (List.mem_range.mpr hi)
/-- one share comes to nought first -/
theorem shrink {y z : V} {m : Nat} (hy : ∀ k, 0 ≤ y k) (hz : ∀ k, k < m → z k ≠ 0 → y k ≠ 0) (hn : ∃ k, k < m ∧ z k < 0) (h0 : ∀ k, m ≤ k → z k = 0) :
    ∃ t : Rat, 0 < t ∧ (∀ k, 0 ≤ y k + t * z k) ∧ ∃ i, i < m ∧ y i ≠ 0 ∧ y i + t * z i = 0 := by
  obtain ⟨i, hi, hin⟩ := hn
  obtain ⟨t, ht, hl⟩ := low_of (((List.range m).filter fun k => decide (z k < 0)).map fun k => y k / -(z k)) (fun e => by
    have := List.map_eq_nil_iff.mp e
    have hm : i ∈ (List.range m).filter fun k => decide (z k < 0) := List.mem_filter.mpr ⟨List.mem_range.mpr hi, decide_eq_true hin⟩
    rw [this] at hm
    cases hm)
  obtain ⟨q, hq, rfl⟩ := List.mem_map.mp ht
  obtain ⟨q1, q2⟩ := List.mem_filter.mp hq
  have q1 := List.mem_range.mp q1
  have q2 : z q < 0 := of_decide_eq_true q2
  have qy := hz q q1 (by grind)
  have qp : 0 < y q := by have := hy q; grind
  have et : y q / -(z q) * -(z q) = y q := by grind
  have tp : 0 < y q / -(z q) := by
    refine Classical.byContradiction fun w => ?_
    have : y q / -(z q) ≤ 0 := by grind
    have := Rat.mul_le_mul_of_nonneg_right this (c := -(z q)) (by grind)
    grind
  refine ⟨y q / -(z q), tp, fun k => ?_, q, q1, qy, by grind⟩
  by_cases hk : z k < 0
  · have km : k < m := Classical.byContradiction fun w => by have := h0 k (by omega); grind
    have := hl _ (List.mem_map.mpr ⟨k, List.mem_filter.mpr ⟨List.mem_range.mpr km, decide_eq_true hk⟩, rfl⟩)
    have := Rat.mul_le_mul_of_nonneg_right this (c := -(z k)) (by grind)
    have e : y k / -(z k) * -(z k) = y k := by grind
    grind
  · have := Rat.mul_nonneg (Rat.le_of_lt tp) (show 0 ≤ z k by grind)
    have := hy k
    grind
theorem at_lin (S : Sys) (t : Rat) (y z : V) (j : Nat) : S.at (fun k => y k + t * z k) j = S.at y j + t * S.at z j := by
  unfold Sys.at
  have := qd_lin t z y (fun k => S.A k j) S.m
  have e : (fun k => y k + t * z k) = fun k => t * z k + y k := funext fun k => by grind
  rw [e, this]
  grind
theorem cost_lin (S : Sys) (t : Rat) (y z : V) : S.cost (fun k => y k + t * z k) = S.cost y + t * S.cost z := by
  unfold Sys.cost
  have := qd_lin t z y S.b S.m
  have e : (fun k => y k + t * z k) = fun k => t * z k + y k := funext fun k => by grind
  rw [e, this]
  grind
/-- the rows that have a share are independent -/
def Sys.indep (S : Sys) (y : V) : Prop := ∀ z : V, (∀ k, z k ≠ 0 → k < S.m ∧ y k ≠ 0) → (∀ j, j < S.n → S.at z j = 0) → ∀ k, z k = 0
/-- in a system with a point, shares may be had from independent rows, with no greater bound -/
theorem Sys.basic {S : Sys} {x : V} (hx : S.feas x) : ∀ (N : Nat) (y : V), cnt y S.m ≤ N → (∀ k, 0 ≤ y k) → (∀ k, S.m ≤ k → y k = 0) →
    ∃ y' : V, (∀ k, 0 ≤ y' k) ∧ (∀ k, S.m ≤ k → y' k = 0) ∧ (∀ j, j < S.n → S.at y' j = S.at y j) ∧ S.cost y' ≤ S.cost y ∧ S.indep y' := by
  intro N
  induction N with
  | zero =>
    intro y hc hy h0
    refine ⟨y, hy, h0, fun _ _ => rfl, Rat.le_refl, fun z hz _ k => Classical.byContradiction fun w => ?_⟩
    obtain ⟨k1, k2⟩ := hz k w
    have : k ∈ (List.range S.m).filter fun k => decide (y k ≠ 0) := List.mem_filter.mpr ⟨List.mem_range.mpr k1, decide_eq_true k2⟩
    unfold cnt at hc
    rw [List.length_eq_zero_iff.mp (Nat.le_zero.mp hc)] at this
    cases this
  | succ N ih =>
    intro y hc hy h0
    by_cases hi : S.indep y
    · exact ⟨y, hy, h0, fun _ _ => rfl, Rat.le_refl, hi⟩
    · unfold Sys.indep at hi
      obtain ⟨z, hz⟩ := Classical.not_forall.mp hi
      obtain ⟨z1, hz⟩ := Classical.not_imp.mp hz
      obtain ⟨z2, hz⟩ := Classical.not_imp.mp hz
      obtain ⟨i, zi⟩ := Classical.not_forall.mp hz
      -- a way on which the bound does not grow and a share falls
      have way : ∃ w : V, (∀ k, w k ≠ 0 → k < S.m ∧ y k ≠ 0) ∧ (∀ j, j < S.n → S.at w j = 0) ∧ S.cost w ≤ 0 ∧ ∃ k, k < S.m ∧ w k < 0 := by
        have neg1 : ∀ j, S.at (fun k => -(z k)) j = -(S.at z j) := fun j => by
          have := at_lin S (-1) (fun _ => 0) z j
          have e : (fun k => (fun _ => (0 : Rat)) k + -1 * z k) = fun k => -(z k) := funext fun k => by dsimp only; grind
          rw [e, show S.at (fun _ => 0) j = 0 from qd_zero fun _ _ => rfl] at this
          grind
        have neg2 : S.cost (fun k => -(z k)) = -(S.cost z) := by
          have := cost_lin S (-1) (fun _ => 0) z
          have e : (fun k => (fun _ => (0 : Rat)) k + -1 * z k) = fun k => -(z k) := funext fun k => by dsimp only; grind
          rw [e, show S.cost (fun _ => 0) = 0 from qd_zero fun _ _ => rfl] at this
          grind
        have n1 : ∀ k, -(z k) ≠ 0 → k < S.m ∧ y k ≠ 0 := fun k hk => z1 k (by grind)
        have n2 : ∀ j, j < S.n → S.at (fun k => -(z k)) j = 0 := fun j hj => by rw [neg1, z2 j hj]; grind
        -- no z of one sign with a bound below 0
        have sgn : ∀ w : V, (∀ k, 0 ≤ w k) → (∀ j, j < S.n → S.at w j = 0) → 0 ≤ S.cost w := fun w hw hj => by
          have := S.weak hx (fun k _ => hw k)
          rw [qd_zero hj] at this
          exact this
        obtain ⟨im, iy⟩ := z1 i zi
        by_cases c0 : S.cost z ≤ 0
        · by_cases ng : ∃ k, k < S.m ∧ z k < 0
          · exact ⟨z, z1, z2, c0, ng⟩
          · have zp : ∀ k, 0 ≤ z k := fun k => Classical.byContradiction fun w => ng ⟨k, (z1 k (by grind)).1, by grind⟩
            have := sgn z zp z2
            refine ⟨fun k => -(z k), n1, n2, by rw [neg2]; grind, i, im, ?_⟩
            have := zp i
            grind
        · by_cases ng : ∃ k, k < S.m ∧ -(z k) < 0
          · exact ⟨fun k => -(z k), n1, n2, by rw [neg2]; grind, ng⟩
          · have zp : ∀ k, 0 ≤ -(z k) := fun k => Classical.byContradiction fun w => ng ⟨k, (z1 k (by grind)).1, by grind⟩
            have := sgn (fun k => -(z k)) zp n2
            rw [neg2] at this
            grind
      obtain ⟨w, w1, w2, w3, w4⟩ := way
      obtain ⟨t, t0, t1, q, q1, q2, q3⟩ := shrink hy (fun k hk hw => (w1 k hw).2) w4 fun k hk => Classical.byContradiction fun e => absurd (w1 k e).1 (by omega)
      have lt : cnt (fun k => y k + t * w k) S.m < cnt y S.m := cnt_lt (fun k hk hne e => by
        have : w k = 0 := Classical.byContradiction fun v => (w1 k v).2 e
        apply hne
        rw [e, this]
        grind) q1 q2 q3
      obtain ⟨y', a1, a2, a3, a4, a5⟩ := ih (fun k => y k + t * w k) (by omega) t1 (fun k hk => by
        have : w k = 0 := Classical.byContradiction fun v => absurd (w1 k v).1 (by omega)
        rw [h0 k hk, this]
        grind)
      refine ⟨y', a1, a2, fun j hj => by rw [a3 j hj, at_lin, w2 j hj]; grind, ?_, a5⟩
      rw [cost_lin] at a4
      have := Rat.mul_le_mul_of_nonneg_left w3 (Rat.le_of_lt t0)
      grind
end Lp

/-! Linear inequalities over the rationals, part 3: rings, the most, corners. -/
namespace Lp
theorem at_zero (S : Sys) (j : Nat) : S.at (fun _ => 0) j = 0 := qd_zero fun _ _ => rfl
theorem cost_zero (S : Sys) : S.cost (fun _ => 0) = 0 := qd_zero fun _ _ => rfl
theorem at_neg (S : Sys) (z : V) (j : Nat) : S.at (fun k => -(z k)) j = -(S.at z j) := by
  have := at_lin S (-1) (fun _ => 0) z j
  have e : (fun k => (fun _ => (0 : Rat)) k + -1 * z k) = fun k => -(z k) := funext fun k => by dsimp only; grind
  rw [e, at_zero] at this
  grind
theorem cost_neg (S : Sys) (z : V) : S.cost (fun k => -(z k)) = -(S.cost z) := by
  have := cost_lin S (-1) (fun _ => 0) z
  have e : (fun k => (fun _ => (0 : Rat)) k + -1 * z k) = fun k => -(z k) := funext fun k => by dsimp only; grind
  rw [e, cost_zero] at this
  grind
/-- shares that show that there is no point -/
structure Sys.Shut (S : Sys) (y : V) : Prop where
  nn : ∀ k, 0 ≤ y k
  out : ∀ k, S.m ≤ k → y k = 0
  z : ∀ j, j < S.n → S.at y j = 0
  c : S.cost y < 0
/-- .. which are the only ones of their rows -/
def Sys.Ring (S : Sys) (y : V) : Prop := ∀ z : V, (∀ k, z k ≠ 0 → k < S.m ∧ y k ≠ 0) → (∀ j, j < S.n → S.at z j = 0) → ∃ c : Rat, ∀ k, z k = c * y k
theorem Sys.ring {S : Sys} : ∀ (N : Nat) (y : V), cnt y S.m ≤ N → S.Shut y → ∃ y', S.Shut y' ∧ S.Ring y' := by
  intro N
  induction N with
  | zero =>
    intro y hc h
    refine ⟨y, h, fun z hz _ => ⟨0, fun k => Classical.byContradiction fun w => ?_⟩⟩
    obtain ⟨k1, k2⟩ := hz k (by grind)
    have : k ∈ (List.range S.m).filter fun k => decide (y k ≠ 0) := List.mem_filter.mpr ⟨List.mem_range.mpr k1, decide_eq_true k2⟩
    unfold cnt at hc
    rw [List.length_eq_zero_iff.mp (Nat.le_zero.mp hc)] at this
    cases this
  | succ N ih =>
    intro y hc h
    by_cases hr : S.Ring y
    · exact ⟨y, h, hr⟩
    unfold Sys.Ring at hr
    obtain ⟨z, hz⟩ := Classical.not_forall.mp hr
    obtain ⟨z1, hz⟩ := Classical.not_imp.mp hz
    obtain ⟨z2, hz⟩ := Classical.not_imp.mp hz
    -- along a way with no greater bound, by which a share falls
    have go : ∀ (y w : V), cnt y S.m ≤ N + 1 → S.Shut y → (∀ k, w k ≠ 0 → k < S.m ∧ y k ≠ 0) → (∀ j, j < S.n → S.at w j = 0) → S.cost w ≤ 0 → (∃ k, k < S.m ∧ w k < 0) → ∃ y', S.Shut y' ∧ S.Ring y' := fun y w hc h w1 w2 w3 w4 => by
      obtain ⟨t, t0, t1, q, q1, q2, q3⟩ := shrink h.nn (fun k hk hw => (w1 k hw).2) w4 fun k hk => Classical.byContradiction fun e => absurd (w1 k e).1 (by omega)
      have lt : cnt (fun k => y k + t * w k) S.m < cnt y S.m := cnt_lt (fun k hk hne e => by
        have : w k = 0 := Classical.byContradiction fun v => (w1 k v).2 e
        apply hne
        rw [e, this]
        grind) q1 q2 q3
      refine ih _ (by omega) ⟨t1, fun k hk => ?_, fun j hj => by rw [at_lin, w2 j hj, h.z j hj]; grind, ?_⟩
      · have : w k = 0 := Classical.byContradiction fun v => absurd (w1 k v).1 (by omega)
        rw [h.out k hk, this]
        grind
      · rw [cost_lin]
        have := Rat.mul_le_mul_of_nonneg_left w3 (Rat.le_of_lt t0)
        have := h.c
        grind
    -- z or the other way about
    have pick : ∃ w : V, (∀ k, w k ≠ 0 → k < S.m ∧ y k ≠ 0) ∧ (∀ j, j < S.n → S.at w j = 0) ∧ S.cost w ≤ 0 ∧ ¬ ∃ c : Rat, ∀ k, w k = c * y k := by
      by_cases c0 : S.cost z ≤ 0
      · exact ⟨z, z1, z2, c0, hz⟩
      · refine ⟨fun k => -(z k), fun k hk => z1 k (by grind), fun j hj => by rw [at_neg, z2 j hj]; grind, by rw [cost_neg]; grind, fun ⟨c, hcc⟩ => hz ⟨-c, fun k => ?_⟩⟩
        have := hcc k
        grind
    obtain ⟨w, w1, w2, w3, w4⟩ := pick
    by_cases ng : ∃ k, k < S.m ∧ w k < 0
    · exact go y w hc h w1 w2 w3 ng
    have wp : ∀ k, 0 ≤ w k := fun k => Classical.byContradiction fun v => ng ⟨k, (w1 k (by grind)).1, by grind⟩
    obtain ⟨i, wi⟩ : ∃ i, w i ≠ 0 := Classical.byContradiction fun v => w4 ⟨0, fun k => by
      have : w k = 0 := Classical.byContradiction fun u => v ⟨k, u⟩
      rw [this]; grind⟩
    obtain ⟨im, iy⟩ := w1 i wi
    have ip : 0 < w i := by have := wp i; grind
    have n1 : ∀ k, -(w k) ≠ 0 → k < S.m ∧ y k ≠ 0 := fun k hk => w1 k (by grind)
    have n2 : ∀ j, j < S.n → S.at (fun k => -(w k)) j = 0 := fun j hj => by rw [at_neg, w2 j hj]; grind
    by_cases c0 : S.cost w = 0
    · exact go y (fun k => -(w k)) hc h n1 n2 (by rw [cost_neg, c0]; decide) ⟨i, im, by grind⟩
    have wc : S.cost w < 0 := by grind
    have wS : S.Shut w := ⟨wp, fun k hk => Classical.byContradiction fun v => absurd (w1 k v).1 (by omega), w2, wc⟩
    by_cases sm : ∃ k, k < S.m ∧ y k ≠ 0 ∧ w k = 0
    · obtain ⟨k, k1, k2, k3⟩ := sm
      exact ih w (by have := cnt_lt (y := y) (z := w) (fun k hk hw => (w1 k hw).2) k1 k2 k3; omega) wS
    have same : ∀ k, y k ≠ 0 → w k ≠ 0 := fun k hk e => sm ⟨k, Classical.byContradiction fun v => hk (h.out k (by omega)), hk, e⟩
    obtain ⟨t, t0, t1, q, q1, q2, q3⟩ := shrink (z := fun k => -(w k)) h.nn (fun k hk hw => (n1 k hw).2) ⟨i, im, by grind⟩ fun k hk => by rw [wS.out k hk]; grind
    -- what is left of y
    have u1 : ∀ k, y k + t * -(w k) ≠ 0 → k < S.m ∧ w k ≠ 0 := fun k hk => by
      have : y k ≠ 0 := fun e => hk (by
        have : w k = 0 := Classical.byContradiction fun v => (w1 k v).2 e
        rw [e, this]; grind)
      exact ⟨Classical.byContradiction fun v => this (h.out k (by omega)), same k this⟩
    have u2 : ∀ j, j < S.n → S.at (fun k => y k + t * -(w k)) j = 0 := fun j hj => by rw [at_lin S t y fun k => -(w k), n2 j hj, h.z j hj]; grind
    have lt : cnt (fun k => y k + t * -(w k)) S.m < cnt y S.m := cnt_lt (fun k hk hne e => (by
        have : w k = 0 := Classical.byContradiction fun v => (w1 k v).2 e
        apply hne
        rw [e, this]
        grind)) q1 q2 q3
    by_cases uc : S.cost (fun k => y k + t * -(w k)) < 0
    · exact ih _ (by omega) ⟨t1, fun k hk => by rw [h.out k hk, wS.out k hk]; grind, u2, uc⟩
    obtain ⟨p, hp⟩ : ∃ p, y p + t * -(w p) ≠ 0 := Classical.byContradiction fun v => by
      have all : ∀ k, y k + t * -(w k) = 0 := fun k => Classical.byContradiction fun u => v ⟨k, u⟩
      refine w4 ⟨t⁻¹, fun k => ?_⟩
      have := all k
      have e : t⁻¹ * t = 1 := by grind
      have : y k = t * w k := by grind
      rw [this]
      grind
    have pp : 0 < y p + t * -(w p) := by have := t1 p; grind
    have cw : cnt w S.m ≤ N + 1 := by
      have : cnt w S.m ≤ cnt y S.m := by
        unfold cnt
        rw [← List.countP_eq_length_filter, ← List.countP_eq_length_filter]
        exact List.countP_mono_left fun k _ hz => decide_eq_true (w1 k (of_decide_eq_true hz)).2
      omega
    refine go w (fun k => -(y k + t * -(w k))) cw wS (fun k hk => u1 k (by grind)) (fun j hj => by rw [at_neg, u2 j hj]; grind) (by rw [cost_neg]; grind) ⟨p, (u1 p hp).1, by grind⟩
/-! ### the most -/
def Sys.more (S : Sys) (a : V) (β : Rat) : Sys := ⟨S.m + 1, S.n, fun k => if k = S.m then a else S.A k, fun k => if k = S.m then β else S.b k⟩
theorem more_at (S : Sys) (a : V) (β : Rat) (y : V) (j : Nat) : (S.more a β).at y j = S.at y j + y S.m * a j := by
  show qd y (fun k => (if k = S.m then a else S.A k) j) S.m + y S.m * (if S.m = S.m then a else S.A S.m) j = _
  rw [if_pos rfl, qd_congr (a := y) (b := y) (y := fun k => S.A k j) (fun _ _ => rfl) fun k hk => by rw [if_neg (by omega)]]
  rfl
theorem more_cost (S : Sys) (a : V) (β : Rat) (y : V) : (S.more a β).cost y = S.cost y + y S.m * β := by
  show qd y (fun k => if k = S.m then β else S.b k) S.m + y S.m * (if S.m = S.m then β else S.b S.m) = _
  rw [if_pos rfl, qd_congr (a := y) (b := y) (y := S.b) (fun _ _ => rfl) fun k hk => by rw [if_neg (by omega)]]
  rfl
theorem more_feas {S : Sys} {a : V} {β : Rat} {x : V} : (S.more a β).feas x ↔ S.feas x ∧ qd a x S.n ≤ β := by
  unfold Sys.feas Sys.more
  dsimp only
  constructor
  · intro h
    refine ⟨fun k hk => ?_, ?_⟩
    · have := h k (by omega)
      rw [if_neg (by omega), if_neg (by omega)] at this
      exact this
    · have := h S.m (by omega)
      rw [if_pos rfl, if_pos rfl] at this
      exact this
  · rintro ⟨h1, h2⟩ k hk
    by_cases e : k = S.m
    · rw [if_pos e, if_pos e]; exact h2
    · rw [if_neg e, if_neg e]; exact h1 k (by omega)
/-- shares for a target -/
structure Sys.For (S : Sys) (c y : V) : Prop where
  nn : ∀ k, 0 ≤ y k
  out : ∀ k, S.m ≤ k → y k = 0
  eq : ∀ j, j < S.n → S.at y j = c j
theorem Sys.For.bound {S : Sys} {c y x : V} (h : S.For c y) (hx : S.feas x) : qd c x S.n ≤ S.cost y := by
  have := S.weak hx fun k _ => h.nn k
  rw [qd_congr (b := c) (y := x) h.eq fun _ _ => rfl] at this
  exact this
theorem scale_for {S : Sys} {c y : V} {d : Rat} (h0 : ∀ k, 0 ≤ y k) (hd : 0 < d) (h : ∀ j, j < S.n → S.at y j = d * c j) : S.For c (fun k => if k < S.m then d⁻¹ * y k else 0) ∧ S.cost (fun k => if k < S.m then d⁻¹ * y k else 0) = d⁻¹ * S.cost y := by
  have di : d⁻¹ * d = 1 := by grind
  have dp : 0 ≤ d⁻¹ := Classical.byContradiction fun z => by
    have : 0 < -(d⁻¹) * d := Rat.mul_pos (by grind) hd
    grind
  have q : ∀ a : V, qd (fun k => if k < S.m then d⁻¹ * y k else 0) a S.m = d⁻¹ * qd y a S.m := fun a => by
    have := qd_lin d⁻¹ y (fun _ => 0) a S.m
    rw [qd_zero (a := fun _ => 0) fun _ _ => rfl] at this
    rw [qd_congr (b := fun j => d⁻¹ * y j + (fun _ => (0 : Rat)) j) (y := a) (fun k hk => by rw [if_pos hk]; dsimp only; grind) fun _ _ => rfl, this]
    grind
  refine ⟨⟨fun k => ?_, fun k hk => if_neg (by omega), fun j hj => ?_⟩, q S.b⟩
  · split
    · exact Rat.mul_nonneg dp (h0 k)
    · exact Rat.le_refl
  · show qd _ (fun k => S.A k j) S.m = c j
    rw [q]
    have := h j hj
    unfold Sys.at at this
    rw [this]
    grind
theorem arith1 {d di C v : Rat} (h : di * d = 1) (m : 0 < di * -(C + d * -v)) : di * C < v := by
  have : di * -(C + d * -v) = v - di * C := by grind
  grind
/-- the least bound of shares is the most of the row -/
theorem Sys.strong {S : Sys} {c x0 : V} {v : Rat} (hx : S.feas x0) (best : ∀ y, S.For c y → S.indep y → v ≤ S.cost y) (some : ∃ y, S.For c y ∧ S.cost y = v) :
    ∃ x, S.feas x ∧ qd c x S.n = v := by
  rcases (S.more (fun j => -(c j)) (-v)).farkas with ⟨x, h⟩ | ⟨y, y0, y1, y2⟩
  · obtain ⟨h1, h2⟩ := more_feas.mp h
    obtain ⟨y, hy, hv⟩ := some
    have := hy.bound h1
    have e : qd (fun j => -(c j)) x S.n = -(qd c x S.n) := by
      have := qd_lin (-1) c (fun _ => 0) x S.n
      rw [qd_zero (a := fun _ => 0) fun _ _ => rfl] at this
      have e : (fun j => -1 * c j + (fun _ => (0 : Rat)) j) = fun j => -(c j) := funext fun j => by dsimp only; grind
      rw [e] at this
      grind
    rw [e] at h2
    exact ⟨x, h1, by grind⟩
  · have z1 : ∀ j, j < S.n → S.at y j = y S.m * c j := fun j hj => by
      have := y1 j hj
      rw [more_at] at this
      grind
    rw [more_cost] at y2
    by_cases e : y S.m = 0
    · have := S.weak hx fun k _ => y0 k
      rw [qd_zero fun j hj => by rw [z1 j hj, e]; grind] at this
      rw [e] at y2
      grind
    · have dp : 0 < y S.m := by have := y0 S.m; grind
      obtain ⟨f, fc⟩ := scale_for (c := c) y0 dp z1
      obtain ⟨y', a1, a2, a3, a4, a5⟩ := S.basic hx _ _ (Nat.le_refl _) f.nn f.out
      have := best y' ⟨a1, a2, fun j hj => by rw [a3 j hj]; exact f.eq j hj⟩ a5
      rw [fc] at a4
      have di : (y S.m)⁻¹ * y S.m = 1 := by grind
      have ip : 0 < (y S.m)⁻¹ := Classical.byContradiction fun z => by
        have := Rat.mul_nonneg (a := -((y S.m)⁻¹)) (b := y S.m) (by grind) (by grind)
        grind
      have m : 0 < (y S.m)⁻¹ * -(S.cost y + y S.m * -v) := Rat.mul_pos ip (by grind)
      have := arith1 di m
      exact absurd (Rat.le_trans ‹v ≤ S.cost y'› a4) (by grind)
end Lp

/-! Linear inequalities over the rationals, part 4: open rooms; corners. -/
namespace Lp
theorem qd_neg (c x : V) (n : Nat) : qd (fun j => -(c j)) x n = -(qd c x n) := by
  have := qd_lin (-1) c (fun _ => 0) x n
  rw [qd_zero (a := fun _ => 0) fun _ _ => rfl] at this
  have e : (fun j => -1 * c j + (fun _ => (0 : Rat)) j) = fun j => -(c j) := funext fun j => by dsimp only; grind
  rw [e] at this
  grind
theorem qd_zero_r {a x : V} : ∀ {n : Nat}, (∀ j, j < n → x j = 0) → qd a x n = 0
  | 0, _ => rfl
  | n + 1, h => by unfold qd; rw [qd_zero_r (n := n) fun j hj => h j (by omega), h n (by omega)]; grind
theorem qd_neg_r (a x : V) (n : Nat) : qd a (fun j => -(x j)) n = -(qd a x n) := by
  have := qd_lin_r (-1) a (fun _ => 0) x n
  rw [qd_zero_r (x := fun _ => 0) fun _ _ => rfl] at this
  have e : (fun j => (fun _ => (0 : Rat)) j + -1 * x j) = fun j => -(x j) := funext fun j => by dsimp only; grind
  rw [e] at this
  grind
theorem qd_smul_r (a x : V) (t : Rat) (n : Nat) : qd a (fun j => t * x j) n = t * qd a x n := by
  have := qd_lin_r t a (fun _ => 0) x n
  rw [qd_zero_r (x := fun _ => 0) fun _ _ => rfl] at this
  have e : (fun j => (fun _ => (0 : Rat)) j + t * x j) = fun j => t * x j := funext fun j => by dsimp only; grind
  rw [e] at this
  grind
/-- where no shares make a row, a way leads on for ever, the row growing -/
theorem Sys.open {S : Sys} {c x0 : V} (hx : S.feas x0) (no : ∀ y, S.For c y → ¬ S.indep y) : ∃ d : V, (∀ k, k < S.m → qd (S.A k) d S.n ≤ 0) ∧ qd c d S.n = 1 := by
  rcases (Sys.more ⟨S.m, S.n, S.A, fun _ => 0⟩ (fun j => -(c j)) (-1)).farkas with ⟨d, h⟩ | ⟨y, y0, y1, y2⟩
  · obtain ⟨h1, h2⟩ := more_feas.mp h
    have h2 : qd (fun j => -(c j)) d S.n ≤ -1 := h2
    rw [qd_neg] at h2
    have p : 0 < qd c d S.n := by grind
    refine ⟨fun j => (qd c d S.n)⁻¹ * d j, fun k hk => ?_, ?_⟩
    · rw [qd_smul_r]
      have h1 : qd (S.A k) d S.n ≤ 0 := h1 k hk
      have ip : 0 ≤ (qd c d S.n)⁻¹ := Classical.byContradiction fun z => by
        have : 0 < -((qd c d S.n)⁻¹) * qd c d S.n := Rat.mul_pos (by grind) p
        have e : (qd c d S.n)⁻¹ * qd c d S.n = 1 := by grind
        grind
      have := Rat.mul_le_mul_of_nonneg_left h1 ip
      grind
    · rw [qd_smul_r]
      grind
  · rw [more_cost] at y2
    have c0 : Sys.cost ⟨S.m, S.n, S.A, fun _ => 0⟩ y = 0 := qd_zero_r fun _ _ => rfl
    rw [c0] at y2
    have dp : 0 < y S.m := by
      show 0 < y S.m
      have y2 : 0 + y S.m * -1 < 0 := y2
      grind
    have z1 : ∀ j, j < S.n → S.at y j = y S.m * c j := fun j hj => by
      have := y1 j hj
      rw [more_at] at this
      have this : S.at y j + y S.m * -(c j) = 0 := this
      grind
    obtain ⟨f, -⟩ := scale_for (c := c) y0 dp z1
    obtain ⟨y', a1, a2, a3, a4, a5⟩ := S.basic hx _ _ (Nat.le_refl _) f.nn f.out
    exact absurd a5 (no y' ⟨a1, a2, fun j hj => by rw [a3 j hj]; exact f.eq j hj⟩)
/-! ### corners -/
/-- the rows that are met just so leave nothing free that another row sees -/
def Sys.full (S : Sys) (x : V) : Prop := ∀ d : V, (∀ k, k < S.m → qd (S.A k) x S.n = S.b k → qd (S.A k) d S.n = 0) → ∀ k, k < S.m → qd (S.A k) d S.n = 0
def Sys.slack (S : Sys) (x : V) : V := fun k => if k < S.m then S.b k - qd (S.A k) x S.n else 0
theorem Sys.corner {S : Sys} {c : V} {v : Rat} (top : ∀ x, S.feas x → qd c x S.n ≤ v) : ∀ (N : Nat) (x : V), cnt (S.slack x) S.m ≤ N → S.feas x → qd c x S.n = v → ∃ x', S.feas x' ∧ qd c x' S.n = v ∧ S.full x' := by
  intro N
  induction N with
  | zero =>
    intro x hc hx hv
    refine ⟨x, hx, hv, fun d hd k hk => hd k hk (Classical.byContradiction fun w => ?_)⟩
    have : k ∈ (List.range S.m).filter fun k => decide (S.slack x k ≠ 0) := List.mem_filter.mpr ⟨List.mem_range.mpr hk, decide_eq_true (by unfold Sys.slack; rw [if_pos hk]; grind)⟩
    unfold cnt at hc
    rw [List.length_eq_zero_iff.mp (Nat.le_zero.mp hc)] at this
    cases this
  | succ N ih =>
    intro x hc hx hv
    by_cases hf : S.full x
    · exact ⟨x, hx, hv, hf⟩
    unfold Sys.full at hf
    obtain ⟨d, hd⟩ := Classical.not_forall.mp hf
    obtain ⟨d1, hd⟩ := Classical.not_imp.mp hd
    obtain ⟨k0, hd⟩ := Classical.not_forall.mp hd
    obtain ⟨k0m, hd⟩ := Classical.not_imp.mp hd
    -- one way or the other
    have pick : ∃ d : V, (∀ k, k < S.m → qd (S.A k) x S.n = S.b k → qd (S.A k) d S.n = 0) ∧ ∃ k, k < S.m ∧ 0 < qd (S.A k) d S.n := by
      by_cases h : 0 < qd (S.A k0) d S.n
      · exact ⟨d, d1, k0, k0m, h⟩
      · refine ⟨fun j => -(d j), fun k hk e => by rw [qd_neg_r, d1 k hk e]; decide, k0, k0m, by rw [qd_neg_r]; grind⟩
    obtain ⟨d, d1, k1, k1m, k1p⟩ := pick
    have step : ∀ d : V, (∀ k, k < S.m → qd (S.A k) x S.n = S.b k → qd (S.A k) d S.n = 0) → (∃ k, k < S.m ∧ 0 < qd (S.A k) d S.n) →
        ∃ t : Rat, 0 < t ∧ S.feas (fun j => x j + t * d j) ∧ cnt (S.slack fun j => x j + t * d j) S.m < cnt (S.slack x) S.m := fun d d1 ⟨k1, k1m, k1p⟩ => by
      obtain ⟨t, t0, t1, i, i1, i2, i3⟩ := shrink (y := S.slack x) (z := fun k => if k < S.m then -(qd (S.A k) d S.n) else 0) (m := S.m) (fun k => by
          unfold Sys.slack
          split
          · have := hx k (by assumption); grind
          · exact Rat.le_refl) (fun k hk hz e => by
          unfold Sys.slack at e
          rw [if_pos hk] at e hz
          apply hz
          rw [d1 k hk (by grind)]
          decide) ⟨k1, k1m, by rw [if_pos k1m]; grind⟩ fun k hk => if_neg (by omega)
      have es : ∀ k, S.slack (fun j => x j + t * d j) k = S.slack x k + t * (if k < S.m then -(qd (S.A k) d S.n) else 0) := fun k => by
        unfold Sys.slack
        by_cases hk : k < S.m
        · rw [if_pos hk, if_pos hk, if_pos hk, qd_lin_r]; grind
        · rw [if_neg hk, if_neg hk, if_neg hk]; grind
      refine ⟨t, t0, fun k hk => ?_, cnt_lt (fun k hk hne e => hne ?_) i1 i2 (by rw [es]; exact i3)⟩
      · have := t1 k
        rw [← es] at this
        unfold Sys.slack at this
        rw [if_pos hk] at this
        grind
      · rw [es, e, if_pos hk]
        unfold Sys.slack at e
        rw [if_pos hk] at e
        rw [d1 k hk (by grind)]
        grind
    obtain ⟨t, t0, f1, f2⟩ := step d d1 ⟨k1, k1m, k1p⟩
    have le1 := top _ f1
    rw [qd_lin_r] at le1
    have ge1 : 0 ≤ qd c d S.n := by
      have n1 : ∀ k, k < S.m → qd (S.A k) x S.n = S.b k → qd (S.A k) (fun j => -(d j)) S.n = 0 := fun k hk e => by rw [qd_neg_r, d1 k hk e]; decide
      by_cases h : ∃ k, k < S.m ∧ 0 < qd (S.A k) (fun j => -(d j)) S.n
      · obtain ⟨u, u0, g1, -⟩ := step _ n1 h
        have := top _ g1
        rw [qd_lin_r, qd_neg_r] at this
        refine Classical.byContradiction fun z => ?_
        have m := Rat.mul_pos u0 (show 0 < -(qd c d S.n) by grind)
        grind
      · have g1 : S.feas (fun j => x j + 1 * -(d j)) := fun k hk => by
          have e := qd_lin_r 1 (S.A k) x (fun j => -(d j)) S.n
          rw [e]
          have := hx k hk
          have h2 : qd (S.A k) (fun j => -(d j)) S.n ≤ 0 := Classical.byContradiction fun z => h ⟨k, hk, by grind⟩
          grind
        have := top _ g1
        have e := qd_lin_r 1 c x (fun j => -(d j)) S.n
        rw [e, qd_neg_r] at this
        grind
    have z : qd c d S.n = 0 := by
      refine Classical.byContradiction fun z => ?_
      have m := Rat.mul_pos t0 (show 0 < qd c d S.n by grind)
      grind
    exact ih _ (by omega) f1 (by rw [qd_lin_r, z]; grind)
end Lp

/-! Linear inequalities over the rationals, part 5: equations by steps. -/
namespace Lp
open Dl
theorem qd_one {a y : V} {p : Nat} : ∀ {n : Nat}, p < n → (∀ j, j < n → j ≠ p → a j * y j = 0) → qd a y n = a p * y p
  | n + 1, hp, h => by
    unfold qd
    by_cases e : p = n
    · subst e
      have z : qd a y p = 0 := by
        have : ∀ m, m ≤ p → qd a y m = 0 := fun m => by
          induction m with
          | zero => intro _; rfl
          | succ m ih => intro hm; unfold qd; rw [ih (by omega), h m (by omega) (by omega)]; grind
        exact this p (Nat.le_refl _)
      rw [z]; grind
    · rw [qd_one (n := n) (by omega) fun j hj hne => h j (by omega) hne, h n (by omega) (by omega)]; grind
theorem qd_all0 {a y : V} : ∀ {n : Nat}, (∀ j, j < n → a j * y j = 0) → qd a y n = 0
  | 0, _ => rfl
  | n + 1, h => by unfold qd; rw [qd_all0 (n := n) fun j hj => h j (by omega), h n (by omega)]; grind
def rq (r : Nat → Int) : V := fun j => (r j : Rat)
theorem qd_int (r y : Nat → Int) : ∀ n, qd (rq r) (rq y) n = ((dot r y n : Int) : Rat)
  | 0 => rfl
  | n + 1 => by
    unfold qd dot
    rw [qd_int r y n]
    unfold rq
    rw [Rat.intCast_add, Rat.intCast_mul]
/-- one bottom for all -/
theorem common_den (y : V) : ∀ w : Nat, ∃ (D : Int) (Y : Nat → Int), 0 < D ∧ ∀ j, j < w → (Y j : Rat) = (D : Rat) * y j
  | 0 => ⟨1, fun _ => 0, by decide, fun j hj => absurd hj (Nat.not_lt_zero j)⟩
  | w + 1 => by
    obtain ⟨D, Y, hD, h⟩ := common_den y w
    refine ⟨D * ((y w).den : Int), fun j => if j < w then Y j * ((y w).den : Int) else D * (y w).num, Int.mul_pos hD (by have := (y w).den_pos; omega), fun j hj => ?_⟩
    by_cases e : j < w
    · dsimp only
      rw [if_pos e, Rat.intCast_mul, Rat.intCast_mul, h j e]; grind
    · have : j = w := by omega
      subst this
      dsimp only
      rw [if_neg e, Rat.intCast_mul, Rat.intCast_mul]
      have : ((y j).num : Rat) = y j * ((y j).den : Int) := by
        have h1 := Rat.num_divInt_den (y j)
        rw [Rat.divInt_eq_div] at h1
        have dn : (((y j).den : Int) : Rat) ≠ 0 := fun z => by
          have z2 : ((y j).den : Int) = 0 := Rat.intCast_inj.mp z
          have := (y j).den_pos
          omega
        generalize (((y j).den : Int) : Rat) = d at *
        generalize ((y j).num : Rat) = u at *
        rw [← h1]
        grind
      rw [this]; grind
def KnQ (w m : Nat) (R : Mat) (y : V) : Prop := ∀ k, k < m → qd (rq (R k)) y w = 0
theorem knq_iff {w m : Nat} {R R0 : Mat} (h : ∀ y, Kn w m R y ↔ Kn w m R0 y) (y : V) : KnQ w m R y ↔ KnQ w m R0 y := by
  obtain ⟨D, Y, hD, hY⟩ := common_den y w
  have key : ∀ R : Mat, KnQ w m R y ↔ Kn w m R Y := fun R => by
    have e : ∀ k, ((dot (R k) Y w : Int) : Rat) = (D : Rat) * qd (rq (R k)) y w := fun k => by
      rw [← qd_int, ← qd_smul_r]
      exact qd_congr (fun _ _ => rfl) fun j hj => hY j hj
    have dn : (D : Rat) ≠ 0 := fun z => by
      have := Rat.intCast_inj.mp (show ((D : Int) : Rat) = ((0 : Int) : Rat) from z)
      omega
    constructor
    · intro h k hk
      have := e k
      rw [h k hk] at this
      exact Rat.intCast_inj.mp (by rw [this]; show (D : Rat) * 0 = ((0 : Int) : Rat); rw [Rat.mul_zero]; rfl)
    · intro h k hk
      have := e k
      rw [h k hk] at this
      have z : (D : Rat) * qd (rq (R k)) y w = 0 := this.symm
      grind
  rw [key R, key R0]
  exact h Y
/-! ### a system of equations, its rows brought to steps -/
section
variable {m c : Nat} {T : Mat}
theorem ech_of (m c : Nat) (T : Mat) : Ech (c + 1) m c T (redG (c + 1) m T c).1 (redG (c + 1) m T c).2 := red_ech (Nat.le_succ c)
/-- what meets the equations, with -1 behind -/
def sol (m c : Nat) (T : Mat) (y : V) : Prop := ∀ k, k < m → qd (rq (T k)) y c = (T k c : Rat)
def ext (c : Nat) (y : V) (e : Rat) : V := fun j => if j < c then y j else e
theorem qd_ext (a y : V) (e : Rat) (c : Nat) : qd a (ext c y e) (c + 1) = qd a y c + a c * e := by
  show qd a (ext c y e) c + a c * ext c y e c = _
  rw [qd_congr (a := a) (b := a) (x := ext c y e) (y := y) (fun _ _ => rfl) (fun j hj => if_pos hj), show ext c y e c = e from if_neg (Nat.lt_irrefl c)]
theorem sol_kn {y : V} : sol m c T y ↔ KnQ (c + 1) m T (ext c y (-1)) := by
  unfold sol KnQ
  constructor
  · intro h k hk
    rw [qd_ext, h k hk]
    show (T k c : Rat) + (T k c : Rat) * -1 = 0
    grind
  · intro h k hk
    have := h k hk
    rw [qd_ext] at this
    have this : qd (rq (T k)) y c + (T k c : Rat) * -1 = 0 := this
    grind
/-- equations that can be met are told to be met -/
theorem not_bad {R : Mat} {ps : List Nat} (e : Ech (c + 1) m c T R ps) {y : V} (h : sol m c T y) : badG m c R ps.length = false := by
  have hk := (knq_iff e.kn _).mpr (sol_kn.mp h)
  unfold badG
  rw [List.any_eq_false]
  intro k hkm hb
  have km := List.mem_range.mp hkm
  rw [Bool.and_eq_true] at hb
  have b1 := of_decide_eq_true hb.1
  have b2 := of_decide_eq_true hb.2
  have := hk k km
  rw [qd_ext, qd_all0 fun j hj => ?_] at this
  · have this : 0 + (R k c : Rat) * -1 = 0 := this
    exact b2 (Rat.intCast_inj.mp (by show (R k c : Rat) = ((0 : Int) : Rat); have e0 : ((0 : Int) : Rat) = 0 := rfl; grind))
  · have z : R k j = 0 := by
      by_cases hj2 : j ∈ ps
      · obtain ⟨i, hi⟩ := List.getElem?_of_mem hj2
        have il := (List.getElem?_eq_some_iff.mp hi).1
        exact (e.piv i j hi).2 k km (by omega)
      · exact e.out j hj hj2 k b1 km
    show (R k j : Rat) * y j = 0
    rw [z]
    show (0 : Rat) * y j = 0
    grind
/-- the numbers told -/
def xR (R : Mat) (c : Nat) (ps : List Nat) : V := fun q => if q ∈ ps then (R (ps.idxOf q) c : Rat) / (R (ps.idxOf q) q : Rat) else 0
theorem ne_q {i : Int} (h : i ≠ 0) : (i : Rat) ≠ 0 := fun z => h (Rat.intCast_inj.mp (show (i : Rat) = ((0 : Int) : Rat) from z))
theorem xR_sol {R : Mat} {ps : List Nat} (e : Ech (c + 1) m c T R ps) (hb : badG m c R ps.length = false) : sol m c T (xR R c ps) := by
  refine sol_kn.mpr ((knq_iff e.kn _).mp fun k hk => ?_)
  rw [qd_ext]
  by_cases hl : k < ps.length
  · have hq : ps[k]? = some ps[k] := List.getElem?_eq_getElem hl
    have qc := e.lt _ (List.getElem_mem hl)
    obtain ⟨v1, v2⟩ := e.piv k _ hq
    have ix := idx_of (inc_nodup e.inc) hq
    rw [qd_one (p := ps[k]) qc fun j hj hne => ?_]
    · show (R k ps[k] : Rat) * xR R c ps ps[k] + (R k c : Rat) * -1 = 0
      unfold xR
      rw [if_pos (List.getElem_mem hl), ix]
      have := ne_q v1
      grind
    · show (R k j : Rat) * xR R c ps j = 0
      unfold xR
      by_cases hj2 : j ∈ ps
      · obtain ⟨i, hi⟩ := List.getElem?_of_mem hj2
        have : i ≠ k := fun z => by subst z; rw [hq] at hi; exact hne (Option.some.inj hi).symm
        rw [(e.piv i j hi).2 k hk (Ne.symm this)]
        show (0 : Rat) * _ = 0
        grind
      · rw [if_neg hj2]; grind
  · have hz : R k c = 0 := Classical.byContradiction fun z => by
      unfold badG at hb
      rw [List.any_eq_false] at hb
      refine hb k (List.mem_range.mpr hk) ?_
      rw [decide_eq_true (by omega), decide_eq_true z]
      rfl
    rw [qd_all0 fun j hj => ?_]
    · show (0 : Rat) + (R k c : Rat) * -1 = 0
      rw [hz]
      have : ((0 : Int) : Rat) = 0 := rfl
      grind
    · have z : R k j = 0 := by
        by_cases hj2 : j ∈ ps
        · obtain ⟨i, hi⟩ := List.getElem?_of_mem hj2
          have il := (List.getElem?_eq_some_iff.mp hi).1
          exact (e.piv i j hi).2 k hk (by omega)
        · exact e.out j hj hj2 k (by omega) hk
      show (R k j : Rat) * _ = 0
      rw [z]
      show (0 : Rat) * _ = 0
      grind
/-- a place that is free: numbers that come to nought, 1 there, nought at the other free ones -/
def zR (R : Mat) (ps : List Nat) (q : Nat) : V := fun j => if j = q then 1 else if j ∈ ps then -(R (ps.idxOf j) q : Rat) / (R (ps.idxOf j) j : Rat) else 0
def ker (m c : Nat) (T : Mat) (y : V) : Prop := ∀ k, k < m → qd (rq (T k)) y c = 0
theorem ker_kn {y : V} : ker m c T y ↔ KnQ (c + 1) m T (ext c y 0) := by
  unfold ker KnQ
  constructor
  · intro h k hk
    rw [qd_ext, h k hk]; grind
  · intro h k hk
    have := h k hk
    rw [qd_ext] at this
    grind
theorem zR_ker {R : Mat} {ps : List Nat} (e : Ech (c + 1) m c T R ps) {q : Nat} (hq : q < c) (hn : q ∉ ps) : ker m c T (zR R ps q) := by
  refine ker_kn.mpr ((knq_iff e.kn _).mp fun k hk => ?_)
  rw [qd_ext]
  by_cases hl : k < ps.length
  · have hp : ps[k]? = some ps[k] := List.getElem?_eq_getElem hl
    have pc := e.lt _ (List.getElem_mem hl)
    obtain ⟨v1, v2⟩ := e.piv k _ hp
    have ix := idx_of (inc_nodup e.inc) hp
    have pq : ps[k] ≠ q := fun z => hn (z ▸ List.getElem_mem hl)
    -- two places: the pivot and q
    have split : qd (rq (R k)) (zR R ps q) c = (R k ps[k] : Rat) * zR R ps q ps[k] + (R k q : Rat) := by
      have h1 : zR R ps q = fun j => (if j = q then 0 else zR R ps q j) + 1 * (if j = q then 1 else 0) := funext fun j => by
        by_cases z : j = q
        · rw [if_pos z, if_pos z]; unfold zR; rw [if_pos z]; grind
        · rw [if_neg z, if_neg z]; grind
      conv => lhs; rw [h1]
      rw [qd_lin_r 1 (rq (R k)) (fun j => if j = q then 0 else zR R ps q j) (fun j => if j = q then 1 else 0) c, qd_one (p := ps[k]) pc fun j hj hne => ?_, qd_one (p := q) hq fun j hj hne => ?_]
      · rw [if_pos rfl, if_neg pq]
        show (R k ps[k] : Rat) * _ + 1 * ((R k q : Rat) * 1) = _
        grind
      · rw [if_neg hne]; grind
      · by_cases z : j = q
        · rw [if_pos z]; grind
        · rw [if_neg z]
          unfold zR
          rw [if_neg z]
          by_cases hj2 : j ∈ ps
          · obtain ⟨i, hi⟩ := List.getElem?_of_mem hj2
            have : i ≠ k := fun w => by subst w; rw [hp] at hi; exact hne (Option.some.inj hi).symm
            show (R k j : Rat) * _ = 0
            rw [(e.piv i j hi).2 k hk (Ne.symm this)]
            show (0 : Rat) * _ = 0
            grind
          · rw [if_neg hj2]; grind
    rw [split]
    unfold zR
    rw [if_neg pq, if_pos (List.getElem_mem hl), ix]
    have := ne_q v1
    grind
  · rw [qd_all0 fun j hj => ?_]
    · grind
    · have z : R k j = 0 := by
        by_cases hj2 : j ∈ ps
        · obtain ⟨i, hi⟩ := List.getElem?_of_mem hj2
          have il := (List.getElem?_eq_some_iff.mp hi).1
          exact (e.piv i j hi).2 k hk (by omega)
        · exact e.out j hj hj2 k (by omega) hk
      show (R k j : Rat) * _ = 0
      rw [z]
      show (0 : Rat) * _ = 0
      grind
/-- where each place is a step, nothing but nought comes to nought -/
theorem ker_full {R : Mat} {ps : List Nat} (e : Ech (c + 1) m c T R ps) (hl : ps.length = c) {y : V} (h : ker m c T y) : ∀ j, j < c → y j = 0 := fun j hj => by
  have hps := inc_full e.inc e.lt hl
  have hi : ps[j]? = some j := by rw [hps, List.getElem?_range hj]
  obtain ⟨v1, v2⟩ := e.piv j j hi
  have jm : j < m := by have := e.len; omega
  have := (knq_iff e.kn _).mpr (ker_kn.mp h) j jm
  rw [qd_ext, qd_one (p := j) hj fun i hi2 hne => ?_] at this
  · have this : (R j j : Rat) * y j + rq (R j) c * 0 = 0 := this
    have := ne_q v1
    grind
  · have hi3 : ps[i]? = some i := by rw [hps, List.getElem?_range hi2]
    show (R j i : Rat) * _ = 0
    rw [(e.piv i i hi3).2 j jm (Ne.symm hne)]
    show (0 : Rat) * _ = 0
    grind
end
end Lp

/-! Linear inequalities over the rationals, part 6: picked rows. -/
namespace Lp
open Dl
/-- a room as a system -/
def sysOf (m n : Nat) (R : Mat) : Sys := ⟨m, n, fun k => rq (R k), fun k => (R k n : Rat)⟩
/-- shares of picked rows, as shares of all -/
def emb (P : List Nat) (y : V) : V := fun k => if k ∈ P then y (P.idxOf k) else 0
theorem emb_qd (y a : V) (m : Nat) : ∀ P : List Nat, P.Nodup → (∀ k ∈ P, k < m) → qd (emb P y) a m = qd y (fun j => a (P.getD j 0)) P.length := fun P => by
  induction hl : P.length generalizing P with
  | zero =>
    intro _ _
    have : P = [] := List.length_eq_zero_iff.mp hl
    subst this
    exact qd_zero fun j _ => if_neg List.not_mem_nil
  | succ p ih =>
    intro hn hm
    obtain ⟨Q, k0, rfl⟩ : ∃ Q k0, P = Q ++ [k0] := by
      have : P ≠ [] := fun z => by rw [z] at hl; cases hl
      exact ⟨P.dropLast, P.getLast this, (List.dropLast_concat_getLast this).symm⟩
    rw [List.length_append, List.length_singleton] at hl
    have hq : Q.length = p := by omega
    rw [List.nodup_append] at hn
    have kn : k0 ∉ Q := fun z => hn.2.2 _ z _ List.mem_cons_self rfl
    have e : emb (Q ++ [k0]) y = fun k => if k = k0 then y p + emb Q y k else emb Q y k := funext fun k => by
      unfold emb
      by_cases z : k = k0
      · subst z
        rw [if_pos (List.mem_append_right _ List.mem_cons_self), if_pos rfl, if_neg kn, List.idxOf_append, if_neg kn, hq]
        rw [show List.idxOf k [k] = 0 from by simp]
        rw [Nat.zero_add]
        grind
      · rw [if_neg z]
        by_cases w : k ∈ Q
        · rw [if_pos (List.mem_append_left _ w), if_pos w, List.idxOf_append, if_pos w]
        · rw [if_neg w, if_neg (fun u => (List.mem_append.mp u).elim w fun v => z (List.mem_singleton.mp v))]
    rw [e, qd_upd, if_pos (hm k0 (List.mem_append_right _ List.mem_cons_self)), ih Q hq hn.1 fun k hk => hm k (List.mem_append_left _ hk)]
    show _ = qd y (fun j => a ((Q ++ [k0]).getD j 0)) p + y p * a ((Q ++ [k0]).getD p 0)
    congr 1
    · exact qd_congr (fun _ _ => rfl) fun j hj => by
        rw [List.getD_eq_getElem?_getD, List.getD_eq_getElem?_getD, List.getElem?_append_left (by omega)]
    · rw [List.getD_eq_getElem?_getD, List.getElem?_append_right (by omega), hq, Nat.sub_self]
      rfl
/-- the rows that have a share, in order -/
def supp (m : Nat) (y : V) : List Nat := (List.range m).filter fun k => decide (y k ≠ 0)
theorem supp_mem {m k : Nat} {y : V} : k ∈ supp m y ↔ k < m ∧ y k ≠ 0 := by
  unfold supp
  rw [List.mem_filter, List.mem_range, decide_eq_true_iff]
theorem range_inc (m : Nat) : (List.range m).Pairwise (· < ·) := by
  rw [List.pairwise_iff_getElem]
  intro i j hi hj h
  rw [List.getElem_range, List.getElem_range]
  exact h
theorem supp_inc (m : Nat) (y : V) : (supp m y).Pairwise (· < ·) := (range_inc m).filter _
theorem getD_mem {P : List Nat} {j : Nat} (h : j < P.length) : P.getD j 0 ∈ P := by
  rw [List.getD_eq_getElem?_getD, List.getElem?_eq_getElem h]
  exact List.getElem_mem h
theorem idx_getD {P : List Nat} (hn : P.Nodup) {j : Nat} (h : j < P.length) : P.idxOf (P.getD j 0) = j := by
  refine idx_of hn ?_
  rw [List.getD_eq_getElem?_getD, List.getElem?_eq_getElem h]
  rfl
theorem getD_idx {P : List Nat} {k : Nat} (h : k ∈ P) : P.getD (P.idxOf k) 0 = k := by
  have hl := List.idxOf_lt_length_of_mem h
  rw [List.getD_eq_getElem?_getD, List.getElem?_eq_getElem hl]
  exact List.getElem_idxOf hl
/-- shares that only picked rows have -/
theorem emb_of {P : List Nat} {Y : V} (h : ∀ k, Y k ≠ 0 → k ∈ P) : emb P (fun j => Y (P.getD j 0)) = Y := funext fun k => by
  unfold emb
  by_cases hk : k ∈ P
  · rw [if_pos hk]
    show Y (P.getD (P.idxOf k) 0) = Y k
    rw [getD_idx hk]
  · rw [if_neg hk]
    exact (Classical.byContradiction fun z => hk (h k fun e => z e.symm))
/-- the equations for shares of picked rows -/
def tM (R : Mat) (P : List Nat) (tg : Nat → Int) : Mat := fun i j => if j < P.length then R (P.getD j 0) i else tg i
theorem tM_sol {m n : Nat} {R : Mat} {P : List Nat} {tg : Nat → Int} (hn : P.Nodup) (hm : ∀ k ∈ P, k < m) (y : V) : sol n P.length (tM R P tg) y ↔ ∀ i, i < n → (sysOf m n R).at (emb P y) i = (tg i : Rat) := by
  have e : ∀ i, (sysOf m n R).at (emb P y) i = qd (rq (tM R P tg i)) y P.length := fun i => by
    unfold Sys.at sysOf
    rw [emb_qd _ _ _ _ hn hm]
    have comm : ∀ (a b : V) n, qd a b n = qd b a n := fun a b n => by
      induction n with
      | zero => rfl
      | succ n ih => unfold qd; rw [ih]; grind
    rw [comm]
    exact qd_congr (fun j hj => by unfold rq tM; rw [if_pos hj]) fun _ _ => rfl
  have et : ∀ i, (tM R P tg i P.length : Rat) = (tg i : Rat) := fun i => by unfold tM; rw [if_neg (Nat.lt_irrefl _)]
  unfold sol
  constructor
  · intro h i hi; rw [e, h i hi, et]
  · intro h i hi; rw [← e, h i hi, et]
theorem tM_ker {m n : Nat} {R : Mat} {P : List Nat} {tg : Nat → Int} (hn : P.Nodup) (hm : ∀ k ∈ P, k < m) (y : V) : ker n P.length (tM R P tg) y ↔ ∀ i, i < n → (sysOf m n R).at (emb P y) i = 0 := by
  have e : ∀ i, (sysOf m n R).at (emb P y) i = qd (rq (tM R P tg i)) y P.length := fun i => by
    unfold Sys.at sysOf
    rw [emb_qd _ _ _ _ hn hm]
    have comm : ∀ (a b : V) n, qd a b n = qd b a n := fun a b n => by
      induction n with
      | zero => rfl
      | succ n ih => unfold qd; rw [ih]; grind
    rw [comm]
    exact qd_congr (fun j hj => by unfold rq tM; rw [if_pos hj]) fun _ _ => rfl
  unfold ker
  constructor
  · intro h i hi; rw [e, h i hi]
  · intro h i hi; rw [← e, h i hi]
/-! ### shares from independent rows -/
abbrev stp (m c : Nat) (T : Mat) : Mat × List Nat := redG (c + 1) m T c
/-- picked rows that make a target by shares not below 0, and are independent -/
structure Good (n : Nat) (R : Mat) (P : List Nat) (tg : Nat → Int) : Prop where
  ok : badG n P.length (stp n P.length (tM R P tg)).1 (stp n P.length (tM R P tg)).2.length = false
  ful : (stp n P.length (tM R P tg)).2.length = P.length
  nn : ∀ j, j < P.length → 0 ≤ xR (stp n P.length (tM R P tg)).1 P.length (stp n P.length (tM R P tg)).2 j
abbrev xP (n : Nat) (R : Mat) (P : List Nat) (tg : Nat → Int) : V := xR (stp n P.length (tM R P tg)).1 P.length (stp n P.length (tM R P tg)).2
theorem good_for {m n : Nat} {R : Mat} {P : List Nat} {tg : Nat → Int} (hn : P.Nodup) (hm : ∀ k ∈ P, k < m) (g : Good n R P tg) : (sysOf m n R).For (rq tg) (emb P (xP n R P tg)) where
  nn := fun k => by
    unfold emb
    split
    · exact g.nn _ (List.idxOf_lt_length_of_mem (by assumption))
    · exact Rat.le_refl
  out := fun k hk => if_neg fun z => absurd (hm k z) (Nat.not_lt.mpr hk)
  eq := fun j hj => (tM_sol hn hm _).mp (xR_sol (ech_of n P.length (tM R P tg)) g.ok) j hj
/-- independent shares are those of a good pick -/
theorem for_good {m n : Nat} {R : Mat} {tg : Nat → Int} {y : V} (f : (sysOf m n R).For (rq tg) y) (i : (sysOf m n R).indep y) :
    Good n R (supp m y) tg ∧ emb (supp m y) (xP n R (supp m y) tg) = y := by
  have hin := supp_inc m y
  have hn := inc_nodup hin
  have hm : ∀ k ∈ supp m y, k < m := fun k hk => (supp_mem.mp hk).1
  have he := ech_of n (supp m y).length (tM R (supp m y) tg)
  have ey : emb (supp m y) (fun j => y ((supp m y).getD j 0)) = y := emb_of fun k hk => supp_mem.mpr ⟨Classical.byContradiction fun z => hk (f.out k (Nat.not_lt.mp z)), hk⟩
  have hs : sol n (supp m y).length (tM R (supp m y) tg) fun j => y ((supp m y).getD j 0) := (tM_sol hn hm _).mpr fun j hj => by rw [ey]; exact f.eq j hj
  have hb := not_bad he hs
  have triv : ∀ z : V, ker n (supp m y).length (tM R (supp m y) tg) z → ∀ j, j < (supp m y).length → z j = 0 := fun z hz j hj => by
    have h1 := (tM_ker (m := m) hn hm z).mp hz
    have h2 := i (emb (supp m y) z) (fun k hk => by
      unfold emb at hk
      by_cases w : k ∈ supp m y
      · exact supp_mem.mp w
      · rw [if_neg w] at hk; exact absurd rfl hk) h1 ((supp m y).getD j 0)
    unfold emb at h2
    rw [if_pos (getD_mem hj), idx_getD hn hj] at h2
    exact h2
  have full : (stp n (supp m y).length (tM R (supp m y) tg)).2.length = (supp m y).length := Classical.byContradiction fun w => by
    have le := inc_len he.inc he.lt
    obtain ⟨q, q1, q2⟩ := inc_gap he.inc he.lt (Nat.lt_of_le_of_ne le w)
    have := triv _ (zR_ker he q1 q2) q q1
    unfold zR at this
    rw [if_pos rfl] at this
    exact absurd this (by decide)
  have ex : ∀ j, j < (supp m y).length → xP n R (supp m y) tg j = y ((supp m y).getD j 0) := fun j hj => by
    have s1 := xR_sol he hb
    have kz : ker n (supp m y).length (tM R (supp m y) tg) fun j => xP n R (supp m y) tg j + (-1) * y ((supp m y).getD j 0) := fun k hk => by
      rw [qd_lin_r, s1 k hk, hs k hk]; grind
    have := triv _ kz j hj
    grind
  refine ⟨⟨hb, full, fun j hj => by rw [show xR _ _ _ j = _ from ex j hj]; exact f.nn _⟩, ?_⟩
  conv => rhs; rw [← ey]
  funext k
  unfold emb
  by_cases w : k ∈ supp m y
  · rw [if_pos w, if_pos w]
    exact ex _ (List.idxOf_lt_length_of_mem w)
  · rw [if_neg w, if_neg w]
end Lp

/-! Linear inequalities over the rationals, part 7: rings by steps; dimensions. -/
namespace Lp
open Dl
/-- the places that are no steps -/
def frees (p : Nat) (ps : List Nat) : List Nat := (List.range p).filter fun k => decide (k ∉ ps)
theorem frees_mem {p k : Nat} {ps : List Nat} : k ∈ frees p ps ↔ k < p ∧ k ∉ ps := by
  unfold frees
  rw [List.mem_filter, List.mem_range, decide_eq_true_iff]
theorem frees_len {p : Nat} {ps : List Nat} (h1 : ps.Pairwise (· < ·)) (h2 : ∀ q ∈ ps, q < p) : ps.length + (frees p ps).length = p := by
  have e : ((List.range p).filter fun k => decide (k ∈ ps)).length = ps.length := by
    refine List.Perm.length_eq ((List.perm_ext_iff_of_nodup ((List.nodup_range).filter _) (inc_nodup h1)).mpr fun k => ?_)
    rw [List.mem_filter, List.mem_range, decide_eq_true_iff]
    exact ⟨fun h => h.2, fun h => ⟨h2 k h, h⟩⟩
  have s := List.length_eq_countP_add_countP (p := fun k => decide (k ∈ ps)) (l := List.range p)
  rw [List.length_range, List.countP_eq_length_filter, e, List.countP_eq_length_filter] at s
  unfold frees
  have : (List.range p).filter (fun k => decide (k ∉ ps)) = (List.range p).filter fun a => decide ¬decide (a ∈ ps) = true := List.filter_congr fun k _ => by
    by_cases h : k ∈ ps <;> simp [h]
  rw [this]
  omega
/-- picked rows whose shares, above nought, come to nought: the only ones -/
structure RingP (n : Nat) (R : Mat) (P : List Nat) (q : Nat) : Prop where
  len : (stp n P.length (tM R P fun _ => 0)).2.length + 1 = P.length
  free : frees P.length (stp n P.length (tM R P fun _ => 0)).2 = [q]
  pos : ∀ j, j < P.length → 0 < zR (stp n P.length (tM R P fun _ => 0)).1 (stp n P.length (tM R P fun _ => 0)).2 q j
abbrev zP (n : Nat) (R : Mat) (P : List Nat) (q : Nat) : V := zR (stp n P.length (tM R P fun _ => 0)).1 (stp n P.length (tM R P fun _ => 0)).2 q
theorem ring_shut {m n : Nat} {R : Mat} {P : List Nat} {q : Nat} (hn : P.Nodup) (hm : ∀ k ∈ P, k < m) (r : RingP n R P q) (hc : (sysOf m n R).cost (emb P (zP n R P q)) < 0) : (sysOf m n R).Shut (emb P (zP n R P q)) where
  nn := fun k => by
    unfold emb
    split
    · exact Rat.le_of_lt (r.pos _ (List.idxOf_lt_length_of_mem (by assumption)))
    · exact Rat.le_refl
  out := fun k hk => if_neg fun z => absurd (hm k z) (Nat.not_lt.mpr hk)
  z := fun j hj => by
    have hq : q ∈ frees P.length (stp n P.length (tM R P fun _ => 0)).2 := by rw [r.free]; exact List.mem_cons_self
    obtain ⟨q1, q2⟩ := frees_mem.mp hq
    exact (tM_ker hn hm _).mp (zR_ker (ech_of n P.length (tM R P fun _ => 0)) q1 q2) j hj
  c := hc
theorem shut_empty {S : Sys} {y : V} (s : S.Shut y) (x : V) : ¬ S.feas x := fun h => by
  have := S.weak h fun k _ => s.nn k
  rw [qd_zero s.z] at this
  have := s.c
  grind
theorem emb_smul (P : List Nat) (c : Rat) (y : V) : emb P (fun j => c * y j) = fun k => c * emb P y k := funext fun k => by
  unfold emb
  split
  · rfl
  · grind
theorem cost_smul (S : Sys) (c : Rat) (y : V) : S.cost (fun k => c * y k) = c * S.cost y := by
  have := cost_lin S c (fun _ => 0) y
  have e : (fun k => (fun _ => (0 : Rat)) k + c * y k) = fun k => c * y k := funext fun k => by dsimp only; grind
  rw [e, cost_zero] at this
  grind
/-- a room without a point has such rows -/
theorem shut_ring {m n : Nat} {R : Mat} {y : V} (s : (sysOf m n R).Shut y) (r : (sysOf m n R).Ring y) :
    ∃ q, RingP n R (supp m y) q ∧ (sysOf m n R).cost (emb (supp m y) (zP n R (supp m y) q)) < 0 ∧ 0 < (supp m y).length ∧ (supp m y).length ≤ n + 1 := by
  have hin := supp_inc m y
  have hn := inc_nodup hin
  have hm : ∀ k ∈ supp m y, k < m := fun k hk => (supp_mem.mp hk).1
  have ey : emb (supp m y) (fun j => y ((supp m y).getD j 0)) = y := emb_of fun k hk => supp_mem.mpr ⟨Classical.byContradiction fun z => hk (s.out k (Nat.not_lt.mp z)), hk⟩
  have p0 : 0 < (supp m y).length := Classical.byContradiction fun z => by
    have e : supp m y = [] := List.length_eq_zero_iff.mp (Nat.le_zero.mp (Nat.not_lt.mp z))
    have : y = fun _ => 0 := by rw [← ey, e]; exact funext fun k => if_neg List.not_mem_nil
    have c := s.c
    rw [this, cost_zero] at c
    exact absurd c (by decide)
  generalize hP : supp m y = P at *
  have he : Ech (P.length + 1) n P.length (tM R P fun _ => 0) (stp n P.length (tM R P fun _ => 0)).1 (stp n P.length (tM R P fun _ => 0)).2 := ech_of n P.length (tM R P fun _ => 0)
  have yp : ∀ j, j < P.length → 0 < y (P.getD j 0) := fun j hj => by
    have h1 := s.nn (P.getD j 0)
    have h2 : y (P.getD j 0) ≠ 0 := ((supp_mem (m := m) (y := y) (k := P.getD j 0)).mp (by rw [hP]; exact getD_mem hj)).2
    grind
  have hk : ker n P.length (tM R P fun _ => 0) fun j => y (P.getD j 0) := (tM_ker (m := m) hn hm _).mpr fun i hi => by rw [ey]; exact s.z i hi
  -- each kernel vector is a number times y's
  have prop : ∀ z : V, ker n P.length (tM R P fun _ => 0) z → ∃ c : Rat, ∀ j, j < P.length → z j = c * y (P.getD j 0) := fun z hz => by
    obtain ⟨c, hc⟩ := r (emb P z) (fun k hkk => by
      unfold emb at hkk
      by_cases w : k ∈ P
      · exact (supp_mem (m := m) (y := y) (k := k)).mp (by rw [hP]; exact w)
      · rw [if_neg w] at hkk; exact absurd rfl hkk) ((tM_ker hn hm z).mp hz)
    refine ⟨c, fun j hj => ?_⟩
    have := hc (P.getD j 0)
    unfold emb at this
    rw [if_pos (getD_mem hj), idx_getD hn hj] at this
    exact this
  have fl := frees_len he.inc he.lt
  have f0 : (frees P.length (stp n P.length (tM R P fun _ => 0)).2).length ≠ 0 := fun z => by
    have := ker_full he (by omega) hk 0 p0
    have := yp 0 p0
    grind
  have at1 : ∀ q, q ∈ frees P.length (stp n P.length (tM R P fun _ => 0)).2 → ∀ j, j < P.length → 0 < zP n R P q j := fun q hq j hj => by
    obtain ⟨q1, q2⟩ := frees_mem.mp hq
    obtain ⟨c, hc⟩ := prop _ (zR_ker he q1 q2)
    have e1 := hc q q1
    have e2 : zP n R P q q = 1 := if_pos rfl
    have h1 := yp q q1
    have cp : 0 < c := Classical.byContradiction fun z => by
      have := Rat.mul_nonneg (a := -c) (b := y (P.getD q 0)) (by grind) (Rat.le_of_lt h1)
      grind
    have := Rat.mul_pos cp (yp j hj)
    have := hc j hj
    grind
  match hF : frees P.length (stp n P.length (tM R P fun _ => 0)).2 with
  | [] => rw [hF] at f0; exact absurd rfl f0
  | [q] =>
    have hq : q ∈ frees P.length (stp n P.length (tM R P fun _ => 0)).2 := by rw [hF]; exact List.mem_cons_self
    obtain ⟨q1, q2⟩ := frees_mem.mp hq
    rw [hF] at fl
    have fl : (stp n P.length (tM R P fun _ => 0)).2.length + 1 = P.length := fl
    refine ⟨q, ⟨fl, hF, at1 q hq⟩, ?_, p0, by have := he.len; omega⟩
    obtain ⟨c, hc⟩ := prop _ (zR_ker he q1 q2)
    have e : emb P (zP n R P q) = fun k => c * y k := by
      rw [show (fun k => c * y k) = fun k => c * emb P (fun j => y (P.getD j 0)) k from by rw [ey], ← emb_smul]
      funext k
      unfold emb
      by_cases w : k ∈ P
      · rw [if_pos w, if_pos w]; exact hc _ (List.idxOf_lt_length_of_mem w)
      · rw [if_neg w, if_neg w]
    rw [e, cost_smul]
    have e1 := hc q q1
    have e2 : zP n R P q q = 1 := if_pos rfl
    have h1 := yp q q1
    have cp : 0 < c := Classical.byContradiction fun z => by
      have := Rat.mul_nonneg (a := -c) (b := y (P.getD q 0)) (by grind) (Rat.le_of_lt h1)
      grind
    have := Rat.mul_pos cp (show 0 < -((sysOf m n R).cost y) by have := s.c; grind)
    grind
  | q :: q' :: l =>
    have hq : q ∈ frees P.length (stp n P.length (tM R P fun _ => 0)).2 := by rw [hF]; exact List.mem_cons_self
    have hq' : q' ∈ frees P.length (stp n P.length (tM R P fun _ => 0)).2 := by rw [hF]; exact List.mem_cons_of_mem _ List.mem_cons_self
    obtain ⟨a1, a2⟩ := frees_mem.mp hq'
    have := at1 q hq q' a1
    have nd : (frees P.length (stp n P.length (tM R P fun _ => 0)).2).Nodup := (List.nodup_range).filter _
    rw [hF, List.nodup_cons] at nd
    have ne : q' ≠ q := fun z => nd.1 (z ▸ List.mem_cons_self)
    have z0 : zP n R P q q' = 0 := by
      show zR _ _ q q' = 0
      unfold zR
      rw [if_neg ne, if_neg a2]
    rw [z0] at this
    exact absurd this (by decide)
end Lp

/-! Linear inequalities over the rationals, part 8: dimensions. -/
namespace Lp
open Dl
theorem qd_comm (a b : V) : ∀ n, qd a b n = qd b a n
  | 0 => rfl
  | n + 1 => by unfold qd; rw [qd_comm a b n]; grind
/-- more vectors than places are dependent -/
theorem dep (M : Nat → V) {a b : Nat} (h : b < a) : ∃ l : V, (∃ i, i < a ∧ l i ≠ 0) ∧ ∀ j, j < b → qd l (fun i => M i j) a = 0 := by
  have hc : ∀ j, ∃ (D : Int) (Y : Nat → Int), 0 < D ∧ ∀ i, i < a → (Y i : Rat) = (D : Rat) * M i j := fun j => common_den (fun i => M i j) a
  obtain ⟨D, T, hDT⟩ : ∃ (D : Nat → Int) (T : Nat → Nat → Int), ∀ j, 0 < D j ∧ ∀ i, i < a → (T j i : Rat) = (D j : Rat) * M i j :=
    ⟨fun j => Classical.choose (hc j), fun j => Classical.choose (Classical.choose_spec (hc j)), fun j => Classical.choose_spec (Classical.choose_spec (hc j))⟩
  have e : Ech (a + 1) b a T (stp b a T).1 (stp b a T).2 := ech_of b a T
  have lt : (stp b a T).2.length < a := Nat.lt_of_le_of_lt e.len h
  obtain ⟨q, q1, q2⟩ := inc_gap e.inc e.lt lt
  refine ⟨zR (stp b a T).1 (stp b a T).2 q, ⟨q, q1, by show (if q = q then (1 : Rat) else _) ≠ 0; rw [if_pos rfl]; decide⟩, fun j hj => ?_⟩
  have hk := zR_ker e q1 q2 j hj
  obtain ⟨hD, hY⟩ := hDT j
  generalize zR (stp b a T).1 (stp b a T).2 q = z at *
  have eq : qd (rq (T j)) z a = (D j : Rat) * qd (fun i => M i j) z a := by
    have := qd_lin (D j : Rat) (fun i => M i j) (fun _ => 0) z a
    rw [qd_zero (a := fun _ => 0) fun _ _ => rfl] at this
    rw [qd_congr (a := rq (T j)) (b := fun i => (D j : Rat) * M i j + (fun _ => (0 : Rat)) i) (x := z) (y := z) (fun i hi => (hY i hi).trans (by dsimp only; grind)) fun _ _ => rfl, this]
    grind
  rw [eq] at hk
  have dn := ne_q (Int.ne_of_gt hD)
  rw [qd_comm]
  generalize qd (fun i => M i j) z a = u at *
  generalize (D j : Rat) = d at *
  grind
def lc (l : V) (v : Nat → V) (f : Nat) : V := fun j => qd l (fun i => v i j) f
theorem lc_qd (l : V) (v : Nat → V) (f : Nat) (x : V) (n : Nat) : qd (lc l v f) x n = qd l (fun i => qd (v i) x n) f := at_turn ⟨f, n, v, fun _ => 0⟩ l x f n
section
variable {m c : Nat} {T R : Mat} {ps : List Nat}
/-- what comes to nought and is nought at the free places is nought -/
theorem ker_free0 (e : Ech (c + 1) m c T R ps) {w : V} (h : ker m c T w) (h0 : ∀ q, q < c → q ∉ ps → w q = 0) : ∀ j, j < c → w j = 0 := fun j hj => by
  by_cases hp : j ∈ ps
  · obtain ⟨i, hi⟩ := List.getElem?_of_mem hp
    have il := (List.getElem?_eq_some_iff.mp hi).1
    have im : i < m := by have := e.len; omega
    obtain ⟨v1, v2⟩ := e.piv i j hi
    have := (knq_iff e.kn _).mpr (ker_kn.mp h) i im
    rw [qd_ext, qd_one (p := j) hj fun k hk hne => ?_] at this
    · have this : (R i j : Rat) * w j + rq (R i) c * 0 = 0 := this
      have := ne_q v1
      grind
    · by_cases hk2 : k ∈ ps
      · obtain ⟨i', hi'⟩ := List.getElem?_of_mem hk2
        have : i' ≠ i := fun z => by subst z; rw [hi] at hi'; exact hne (Option.some.inj hi').symm
        show (R i k : Rat) * _ = 0
        rw [(e.piv i' k hi').2 i im (Ne.symm this)]
        show (0 : Rat) * _ = 0
        grind
      · rw [h0 k hk hk2]; grind
  · exact h0 j hj hp
theorem getD_inj {l : List Nat} (hn : l.Nodup) {i j : Nat} (hi : i < l.length) (hj : j < l.length) (h : l.getD i 0 = l.getD j 0) : i = j := by
  have := idx_getD hn hi
  rw [h, idx_getD hn hj] at this
  exact this.symm
/-- a smaller kernel leaves no more places free -/
theorem free_le {m' : Nat} {T' R' : Mat} {ps' : List Nat} (e : Ech (c + 1) m c T R ps) (e' : Ech (c + 1) m' c T' R' ps') (h : ∀ z, ker m c T z → ker m' c T' z) : (frees c ps).length ≤ (frees c ps').length := Classical.byContradiction fun hlt => by
  obtain ⟨l, ⟨i0, i1, i2⟩, hl⟩ := dep (fun i j => zR R ps ((frees c ps).getD i 0) ((frees c ps').getD j 0)) (Nat.lt_of_not_le hlt)
  have nd : (frees c ps).Nodup := (List.nodup_range).filter _
  have kw : ker m c T (lc l (fun i => zR R ps ((frees c ps).getD i 0)) (frees c ps).length) := fun k hk => by
    rw [qd_comm, lc_qd]
    refine qd_all0 fun i hi => ?_
    obtain ⟨a1, a2⟩ := frees_mem.mp (getD_mem hi)
    have := zR_ker e a1 a2 k hk
    rw [qd_comm] at this
    rw [this]
    grind
  have z := ker_free0 e' (h _ kw) (fun q hq hn => by
    have hm : q ∈ frees c ps' := frees_mem.mpr ⟨hq, hn⟩
    have := hl ((frees c ps').idxOf q) (List.idxOf_lt_length_of_mem hm)
    rw [getD_idx hm] at this
    exact this) ((frees c ps).getD i0 0) (frees_mem.mp (getD_mem i1)).1
  unfold lc at z
  rw [qd_one (p := i0) i1 fun i hi hne => ?_] at z
  · have e1 : zR R ps ((frees c ps).getD i0 0) ((frees c ps).getD i0 0) = 1 := if_pos rfl
    have z : l i0 * zR R ps ((frees c ps).getD i0 0) ((frees c ps).getD i0 0) = 0 := z
    rw [e1] at z
    exact i2 (by grind)
  · have ne : (frees c ps).getD i0 0 ≠ (frees c ps).getD i 0 := fun w => hne (getD_inj nd i1 hi w).symm
    show l i * zR R ps ((frees c ps).getD i 0) ((frees c ps).getD i0 0) = 0
    unfold zR
    rw [if_neg ne, if_neg (frees_mem.mp (getD_mem i1)).2]
    grind
theorem rank_eq {m' : Nat} {T' R' : Mat} {ps' : List Nat} (e : Ech (c + 1) m c T R ps) (e' : Ech (c + 1) m' c T' R' ps') (h : ∀ z, ker m c T z ↔ ker m' c T' z) : ps.length = ps'.length := by
  have h1 := free_le e e' fun z => (h z).mp
  have h2 := free_le e' e fun z => (h z).mpr
  have a := frees_len e.inc e.lt
  have b := frees_len e'.inc e'.lt
  omega
/-- independent rows are as many as steps -/
theorem rows_indep (e : Ech (c + 1) m c T R ps) (h : ∀ l : V, (∀ j, j < c → qd l (fun k => (T k j : Rat)) m = 0) → ∀ k, k < m → l k = 0) : ps.length = m := Classical.byContradiction fun hne => by
  have lt : ps.length < m := Nat.lt_of_le_of_ne e.len hne
  obtain ⟨l, ⟨i0, i1, i2⟩, hl⟩ := dep (fun k j => (T k (ps.getD j 0) : Rat)) lt
  refine i2 (h l (fun j hj => ?_) i0 i1)
  by_cases hp : j ∈ ps
  · have := hl (ps.idxOf j) (List.idxOf_lt_length_of_mem hp)
    rw [getD_idx hp] at this
    exact this
  · -- a free place: by what comes to nought
    have hz := zR_ker e hj hp
    have s1 : qd (lc l (fun k => rq (T k)) m) (zR R ps j) c = 0 := by
      rw [lc_qd]
      exact qd_all0 fun k hk => by rw [hz k hk]; grind
    rw [qd_one (p := j) hj fun i hi hne => ?_] at s1
    · have e1 : zR R ps j j = 1 := if_pos rfl
      rw [e1] at s1
      show lc l (fun k => rq (T k)) m j = 0
      grind
    · by_cases hi2 : i ∈ ps
      · have := hl (ps.idxOf i) (List.idxOf_lt_length_of_mem hi2)
        rw [getD_idx hi2] at this
        show qd l (fun k => (T k i : Rat)) m * _ = 0
        rw [this]; grind
      · unfold zR
        rw [if_neg hne, if_neg hi2]; grind
end
end Lp

/-! Linear inequalities over the rationals, part 9: corners by picked rows. -/
namespace Lp
open Dl
/-- picked rows -/
def pR (R : Mat) (P : List Nat) : Mat := fun i => R (P.getD i 0)
theorem pR_ker {n : Nat} {R : Mat} {P : List Nat} {d : V} : ker P.length n (pR R P) d ↔ ∀ k ∈ P, qd (rq (R k)) d n = 0 := by
  unfold ker pR
  constructor
  · intro h k hk
    have := h (P.idxOf k) (List.idxOf_lt_length_of_mem hk)
    rw [getD_idx hk] at this
    exact this
  · intro h i hi
    exact h _ (getD_mem hi)
structure Kp (m n : Nat) (R : Mat) (x : V) (P : List Nat) : Prop where
  inc : P.Pairwise (· < ·)
  lt : ∀ k ∈ P, k < m
  tight : ∀ k ∈ P, qd (rq (R k)) x n = (R k n : Rat)
  ker : ∀ d : V, (∀ k ∈ P, qd (rq (R k)) d n = 0) → ∀ k, k < m → qd (rq (R k)) d n = 0
theorem kp_min {m n : Nat} {R : Mat} {x : V} : ∀ (N : Nat) (P : List Nat), P.length ≤ N → Kp m n R x P → ∃ P', Kp m n R x P' ∧ ∀ l : V, (∀ j, j < n → qd l (fun i => (pR R P' i j : Rat)) P'.length = 0) → ∀ i, i < P'.length → l i = 0 := by
  intro N
  induction N with
  | zero =>
    intro P hl hp
    exact ⟨P, hp, fun l _ i hi => absurd hi (by omega)⟩
  | succ N ih =>
    intro P hl hp
    by_cases h : ∀ l : V, (∀ j, j < n → qd l (fun i => (pR R P i j : Rat)) P.length = 0) → ∀ i, i < P.length → l i = 0
    · exact ⟨P, hp, h⟩
    obtain ⟨l, h⟩ := Classical.not_forall.mp h
    obtain ⟨h1, h⟩ := Classical.not_imp.mp h
    obtain ⟨i0, h⟩ := Classical.not_forall.mp h
    obtain ⟨h2, h3⟩ := Classical.not_imp.mp h
    have nd := inc_nodup hp.inc
    have mem : ∀ {k : Nat}, k ∈ P.filter (fun k => decide (k ≠ P.getD i0 0)) ↔ k ∈ P ∧ k ≠ P.getD i0 0 := fun {k} => by rw [List.mem_filter, decide_eq_true_iff]
    refine ih (P.filter fun k => decide (k ≠ P.getD i0 0)) ?_ ⟨hp.inc.filter _, fun k hk => hp.lt k (mem.mp hk).1, fun k hk => hp.tight k (mem.mp hk).1, fun d hd => hp.ker d fun k hk => ?_⟩
    · have : (P.filter fun k => decide (k ≠ P.getD i0 0)).length < P.length := by
        refine Nat.lt_of_le_of_ne (List.length_filter_le _ _) fun e => ?_
        have := List.length_filter_eq_length_iff.mp e (P.getD i0 0) (getD_mem h2)
        rw [decide_eq_true_iff] at this
        exact this rfl
      omega
    · by_cases e : k = P.getD i0 0
      · subst e
        have s : qd (lc l (fun i => rq (pR R P i)) P.length) d n = 0 := qd_zero fun j hj => h1 j hj
        rw [lc_qd, qd_one (p := i0) h2 fun i hi hne => ?_] at s
        · have s : l i0 * qd (rq (R (P.getD i0 0))) d n = 0 := s
          grind
        · have : P.getD i 0 ≠ P.getD i0 0 := fun w => hne (getD_inj nd hi h2 w)
          have z := hd (P.getD i 0) (mem.mpr ⟨getD_mem hi, this⟩)
          show l i * qd (rq (R (P.getD i 0))) d n = 0
          rw [z]; grind
      · exact hd k (mem.mpr ⟨hk, e⟩)
/-- picked rows by which a corner is told -/
structure Corner (m n : Nat) (R : Mat) (P : List Nat) : Prop where
  inc : P.Pairwise (· < ·)
  lt : ∀ k ∈ P, k < m
  len : P.length = (stp m n R).2.length
  ok : badG P.length n (stp P.length n (pR R P)).1 (stp P.length n (pR R P)).2.length = false
  ful : (stp P.length n (pR R P)).2.length = (stp m n R).2.length
abbrev cP (n : Nat) (R : Mat) (P : List Nat) : V := xR (stp P.length n (pR R P)).1 n (stp P.length n (pR R P)).2
theorem corner_pick {m n : Nat} {R : Mat} {x : V} (hx : (sysOf m n R).feas x) (hf : (sysOf m n R).full x) :
    ∃ P, Corner m n R P ∧ (∀ k, k < m → qd (rq (R k)) (cP n R P) n = qd (rq (R k)) x n) ∧ (sysOf m n R).feas (cP n R P) := by
  have t0 : Kp m n R x ((List.range m).filter fun k => decide (qd (rq (R k)) x n = (R k n : Rat))) := by
    refine ⟨(range_inc m).filter _, fun k hk => List.mem_range.mp (List.mem_filter.mp hk).1, fun k hk => of_decide_eq_true (List.mem_filter.mp hk).2, fun d hd => hf d fun k hk ht => hd k (List.mem_filter.mpr ⟨List.mem_range.mpr hk, decide_eq_true ht⟩)⟩
  obtain ⟨P, kp, ind⟩ := kp_min _ _ (Nat.le_refl _) t0
  have e : Ech (n + 1) P.length n (pR R P) (stp P.length n (pR R P)).1 (stp P.length n (pR R P)).2 := ech_of _ _ _
  have e0 : Ech (n + 1) m n R (stp m n R).1 (stp m n R).2 := ech_of _ _ _
  have l1 := rows_indep e ind
  have l2 := rank_eq e e0 fun z => ⟨fun h k hk => kp.ker z (pR_ker.mp h) k hk, fun h => pR_ker.mpr fun k hk => h k (kp.lt k hk)⟩
  have sx : sol P.length n (pR R P) x := fun i hi => kp.tight _ (getD_mem hi)
  have ok := not_bad e sx
  have sc := xR_sol e ok
  have same : ∀ k, k < m → qd (rq (R k)) (cP n R P) n = qd (rq (R k)) x n := fun k hk => by
    have := kp.ker (fun j => cP n R P j + (-1) * x j) (fun k hk => by
      rw [qd_lin_r]
      have h1 := sc (P.idxOf k) (List.idxOf_lt_length_of_mem hk)
      have h2 := sx (P.idxOf k) (List.idxOf_lt_length_of_mem hk)
      unfold pR at h1 h2
      rw [getD_idx hk] at h1 h2
      have h1 : qd (rq (R k)) (cP n R P) n = (R k n : Rat) := h1
      grind) k hk
    rw [qd_lin_r] at this
    grind
  refine ⟨P, ⟨kp.inc, kp.lt, by omega, ok, l2⟩, same, fun k hk => ?_⟩
  have := hx k hk
  have h2 := same k hk
  show qd (rq (R k)) (cP n R P) n ≤ _
  rw [h2]
  exact this
/-- a row whose most is told is seen by no way that the room's rows don't see -/
theorem same_row {S : Sys} {c x z : V} {v : Rat} (top : ∀ x, S.feas x → qd c x S.n ≤ v) (hx : S.feas x) (h : ∀ k, k < S.m → qd (S.A k) z S.n = qd (S.A k) x S.n) : qd c z S.n = qd c x S.n := by
  have d0 : ∀ k, k < S.m → qd (S.A k) (fun j => z j + (-1) * x j) S.n = 0 := fun k hk => by rw [qd_lin_r, h k hk]; grind
  have any : ∀ t : Rat, qd c x S.n + t * qd c (fun j => z j + (-1) * x j) S.n ≤ v := fun t => by
    have := top (fun j => x j + t * (z j + (-1) * x j)) fun k hk => by
      have e := qd_lin_r t (S.A k) x (fun j => z j + (-1) * x j) S.n
      rw [e, d0 k hk]
      have := hx k hk
      grind
    have e := qd_lin_r t c x (fun j => z j + (-1) * x j) S.n
    rw [e] at this
    exact this
  have e : qd c (fun j => z j + (-1) * x j) S.n = 0 := Classical.byContradiction fun w => by
    generalize qd c (fun j => z j + (-1) * x j) S.n = u at *
    have := any ((v - qd c x S.n + 1) / u)
    have e1 : (v - qd c x S.n + 1) / u * u = v - qd c x S.n + 1 := by grind
    grind
  rw [qd_lin_r] at e
  grind
end Lp

/-! The D-layer, part 47: the most: choices, equations for shares. -/
namespace Dl
open PySem PySem.Spec
open PyProof.Rows L2
/-- all choices, in the program's order -/
def choN (t : Nat) : Nat → List (List Nat)
  | 0 => [[]]
  | k + 1 => choN t k ++ ((choN t k).filter fun P => decide (P.length < t)).map (· ++ [k])
theorem choN_mem {t : Nat} {P : List Nat} : ∀ {m : Nat}, P ∈ choN t m ↔ P.Pairwise (· < ·) ∧ (∀ k ∈ P, k < m) ∧ P.length ≤ t
  | 0 => by
    unfold choN
    rw [List.mem_singleton]
    constructor
    · rintro rfl
      exact ⟨.nil, (fun k hk => nomatch hk), Nat.zero_le _⟩
    · rintro ⟨_, h, _⟩
      cases P with
      | nil => rfl
      | cons k P => exact absurd (h k List.mem_cons_self) (Nat.not_lt_zero k)
  | m + 1 => by
    unfold choN
    rw [List.mem_append, choN_mem (m := m)]
    constructor
    · rintro (⟨h1, h2, h3⟩ | h)
      · exact ⟨h1, fun k hk => Nat.lt_succ_of_lt (h2 k hk), h3⟩
      · obtain ⟨Q, hQ, rfl⟩ := List.mem_map.mp h
        obtain ⟨q1, q2⟩ := List.mem_filter.mp hQ
        obtain ⟨h1, h2, h3⟩ := (choN_mem (m := m)).mp q1
        have q2 := of_decide_eq_true q2
        refine ⟨List.pairwise_append.mpr ⟨h1, List.pairwise_singleton .., fun a ha b hb => by rw [List.mem_singleton.mp hb]; exact h2 a ha⟩, fun k hk => ?_, by rw [List.length_append, List.length_singleton]; omega⟩
        rcases List.mem_append.mp hk with hk | hk
        · exact Nat.lt_succ_of_lt (h2 k hk)
        · rw [List.mem_singleton.mp hk]; exact Nat.lt_succ_self m
    · rintro ⟨h1, h2, h3⟩
      by_cases hm : m ∈ P
      · right
        have hne : P ≠ [] := fun z => by rw [z] at hm; cases hm
        have e := List.dropLast_concat_getLast hne
        have lm : P.getLast hne = m := by
          have hl := h2 _ (List.getLast_mem hne)
          rw [← e] at hm h1
          rcases List.mem_append.mp hm with z | z
          · have := (List.pairwise_append.mp h1).2.2 m z _ List.mem_cons_self
            omega
          · exact (List.mem_singleton.mp z).symm
        have h1' := h1
        rw [← e, lm] at h1'
        obtain ⟨d1, d2, d3⟩ := List.pairwise_append.mp h1'
        have dl : P.dropLast.length + 1 = P.length := by
          have := congrArg List.length e
          rw [List.length_append, List.length_singleton] at this
          exact this
        refine List.mem_map.mpr ⟨P.dropLast, List.mem_filter.mpr ⟨(choN_mem (m := m)).mpr ⟨d1, fun k hk => d3 k hk m List.mem_cons_self, by omega⟩, decide_eq_true (by omega)⟩, ?_⟩
        rw [lm] at e
        exact e
      · exact .inl ⟨h1, fun k hk => by
          have := h2 k hk
          have : k ≠ m := fun z => hm (z ▸ hk)
          omega, h3⟩
/-- the equations for shares of picked rows -/
def tM' (R : Mat) (P : List Nat) (tg : Nat → Int) : Mat := fun i j => if j < P.length then R (P.getD j 0) i else tg i
/-! ### fractions made whole -/
def wO : List (Int × Int) → Int → Int
  | [], o => o
  | p :: ps, o => wO ps ((o * p.2).fdiv (Int.gcd o p.2))
def okW (xs : List (Int × Int)) : Prop := ∀ x ∈ xs, 0 < x.2 ∧ bnd 1300 x.1 ∧ bnd 1300 x.2
theorem lcm_step {o b : Int} (ho : 0 < o) (hb : 0 < b) : 0 < (o * b).fdiv (Int.gcd o b) ∧ o ∣ (o * b).fdiv (Int.gcd o b) ∧ b ∣ (o * b).fdiv (Int.gcd o b) ∧ ((o * b).fdiv (Int.gcd o b)).natAbs ≤ (o * b).natAbs := by
  have g0 : (Int.gcd o b : Int) ≠ 0 := fun z => by
    have := Int.gcd_eq_zero_iff.mp (Int.ofNat_eq_zero.mp z)
    omega
  have gp : 0 < (Int.gcd o b : Int) := by omega
  obtain ⟨c, hc⟩ : (Int.gcd o b : Int) ∣ b := Int.gcd_dvd_right ..
  obtain ⟨d, hd⟩ : (Int.gcd o b : Int) ∣ o := Int.gcd_dvd_left ..
  have e1 : (o * b).fdiv (Int.gcd o b) = o * c := by
    rw [show o * b = (Int.gcd o b : Int) * (o * c) from by conv => lhs; rw [hc]
                                                           grind, Int.mul_fdiv_cancel_left _ g0]
  have e2 : (o * b).fdiv (Int.gcd o b) = b * d := by
    rw [show o * b = (Int.gcd o b : Int) * (b * d) from by conv => lhs; rw [hd]
                                                           grind, Int.mul_fdiv_cancel_left _ g0]
  have cp : 0 < c := Classical.byContradiction fun z => by
    have := Int.mul_nonneg (show 0 ≤ (Int.gcd o b : Int) by omega) (show 0 ≤ -c by omega)
    rw [Int.mul_neg, ← hc] at this
    omega
  exact ⟨e1 ▸ Int.mul_pos ho cp, e1 ▸ Int.dvd_mul_right .., e2 ▸ Int.dvd_mul_right .., fdiv_le (by omega)⟩
theorem wO_ok : ∀ (xs : List (Int × Int)) (o : Int) (k : Nat), okW xs → 0 < o → bnd k o → 0 < wO xs o ∧ o ∣ wO xs o ∧ (∀ x ∈ xs, x.2 ∣ wO xs o) ∧ bnd (k + 1300 * xs.length) (wO xs o)
  | [], o, k, _, ho, hk => ⟨ho, Int.dvd_refl _, (fun x hx => nomatch hx), hk⟩
  | p :: ps, o, k, hx, ho, hk => by
    obtain ⟨p1, p2, p3⟩ := hx p List.mem_cons_self
    obtain ⟨a1, a2, a3, a4⟩ := lcm_step ho p1
    obtain ⟨b1, b2, b3, b4⟩ := wO_ok ps ((o * p.2).fdiv (Int.gcd o p.2)) (k + 1300) (fun x h => hx x (List.mem_cons_of_mem _ h)) a1 (bnd_le a4 (bnd_mul hk p3))
    unfold wO
    refine ⟨b1, Int.dvd_trans a2 b2, fun x hx' => ?_, bnd_mono b4 (by rw [List.length_cons]; omega)⟩
    rcases List.mem_cons.mp hx' with rfl | hx'
    · exact Int.dvd_trans a3 b2
    · exact b3 x hx'
def wN (xs : List (Int × Int)) (P : List Nat) (o : Int) (q : Nat) : Int := if q ∈ P then (xs.getD (P.idxOf q) (0, 1)).1 * o.fdiv (xs.getD (P.idxOf q) (0, 1)).2 else 0
/-! ### rows added -/
end Dl

/-! The D-layer, part 48: the most: shares by picked rows. -/
namespace Dl
open PySem PySem.Spec
open PyProof.Rows L2
def shN (n : Nat) (R : Mat) (P : List Nat) (tg : Nat → Int) : Option (Int × (Nat → Int)) :=
  match solN n P.length (tM' R P tg) with
  | none => none
  | some (xs, r) => if r < P.length then none else if xs.any (fun x => decide ((frX x).1 < 0)) then none else some (wO (xs.map frX) 1, wN (xs.map frX) P (wO (xs.map frX) 1))
theorem tM'_bnd {b : Nat} {R : Mat} {P : List Nat} {tg : Nat → Int} (h1 : ∀ i j, bnd b (R i j)) (h2 : ∀ j, bnd b (tg j)) (i j : Nat) : bnd b (tM' R P tg i j) := by
  unfold tM'; split
  · exact h1 _ _
  · exact h2 _
/-- the numbers told have bottoms, and are small -/
theorem xG_okW {m c b : Nat} {T : Mat} (hb : ∀ i j, bnd b (T i j)) (hm : eb b m ≤ 1300) : okW (((List.range c).map (xG (redG (c + 1) m T c).1 c (redG (c + 1) m T c).2)).map frX) := fun x hx => by
  obtain ⟨p, hp, rfl⟩ := List.mem_map.mp hx
  obtain ⟨q, hq, rfl⟩ := List.mem_map.mp hp
  have e : Ech (c + 1) m c T (redG (c + 1) m T c).1 (redG (c + 1) m T c).2 := red_ech (Nat.le_succ c)
  have rb : ∀ i j, bnd 1300 ((redG (c + 1) m T c).1 i j) := fun i j => bnd_mono (red_bnd hb c i j) (Nat.le_trans (eb_mono e.len) hm)
  have ok : (xG (redG (c + 1) m T c).1 c (redG (c + 1) m T c).2 q).2 ≠ 0 ∧ bnd 1300 (xG (redG (c + 1) m T c).1 c (redG (c + 1) m T c).2 q).1 ∧ bnd 1300 (xG (redG (c + 1) m T c).1 c (redG (c + 1) m T c).2 q).2 := by
    unfold xG
    by_cases h : q ∈ (redG (c + 1) m T c).2
    · rw [if_pos h]
      obtain ⟨i, hi⟩ := List.getElem?_of_mem h
      rw [idx_of (inc_nodup e.inc) hi]
      exact ⟨(e.piv i q hi).1, rb _ _, rb _ _⟩
    · rw [if_neg h]
      exact ⟨by decide, bnd_zero, bnd_one (by decide)⟩
  have f := frX_ok ok.1
  exact ⟨f.1, bnd_le f.2.2.2.1 ok.2.1, bnd_le f.2.2.2.2 ok.2.2⟩
structure okPk (m n b : Nat) (R : Mat) (P : List Nat) : Prop where
  n3 : n ≤ 3
  m14 : m ≤ 14
  nd : P.Nodup
  lt : ∀ k ∈ P, k < m
  p4 : P.length ≤ 4
  R : ∀ i j, bnd b (R i j)
  pn : P.length ≤ n + 1
  e3 : eb b n ≤ 1300
end Dl

/-! The D-layer, part 49: the most: rings. -/
namespace Dl
open PySem PySem.Spec
open PyProof.Rows L2
def freeN (p : Nat) (ps : List Nat) : List Nat := (List.range p).filter fun k => decide (k ∉ ps)
def zG (L : Mat) (ps : List Nat) (q j : Nat) : Int × Int := if j ∈ ps then (0 - L (ps.idxOf j) q, L (ps.idxOf j) j) else (1, 1)
def rgN (n : Nat) (R : Mat) (P : List Nat) : Option (Nat → Int) :=
  if (redG (P.length + 1) n (tM' R P fun _ => 0) P.length).2.length + 1 ≠ P.length then none
  else if ((List.range P.length).map fun j => frX (zG (redG (P.length + 1) n (tM' R P fun _ => 0) P.length).1 (redG (P.length + 1) n (tM' R P fun _ => 0) P.length).2 ((freeN P.length (redG (P.length + 1) n (tM' R P fun _ => 0) P.length).2).getD 0 0) j)).any (fun x => decide (x.1 ≤ 0)) then none
  else some (wN ((List.range P.length).map fun j => frX (zG (redG (P.length + 1) n (tM' R P fun _ => 0) P.length).1 (redG (P.length + 1) n (tM' R P fun _ => 0) P.length).2 ((freeN P.length (redG (P.length + 1) n (tM' R P fun _ => 0) P.length).2).getD 0 0) j)) P
    (wO ((List.range P.length).map fun j => frX (zG (redG (P.length + 1) n (tM' R P fun _ => 0) P.length).1 (redG (P.length + 1) n (tM' R P fun _ => 0) P.length).2 ((freeN P.length (redG (P.length + 1) n (tM' R P fun _ => 0) P.length).2).getD 0 0) j)) 1))
end Dl

/-! The D-layer, part 50: the most: empty rooms. -/
namespace Dl
open PySem PySem.Spec
open PyProof.Rows L2
theorem choN_tl (t : Nat) : ∀ m, ∃ tl, choN t m = [] :: tl ∧ ∀ P ∈ tl, P ≠ []
  | 0 => ⟨[], rfl, fun P hP => nomatch hP⟩
  | m + 1 => by
    obtain ⟨tl, h1, h2⟩ := choN_tl t m
    unfold choN
    rw [h1]
    refine ⟨tl ++ (([] :: tl).filter fun P => decide (P.length < t)).map (· ++ [m]), rfl, fun P hP => ?_⟩
    rcases List.mem_append.mp hP with hP | hP
    · exact h2 P hP
    · obtain ⟨Q, _, rfl⟩ := List.mem_map.mp hP
      exact fun z => nomatch (List.append_eq_nil_iff.mp z).2
theorem zG_okW {n p b : Nat} {T : Mat} (hb : ∀ i j, bnd b (T i j)) (hm : eb b n ≤ 1300) (q : Nat) : okW ((List.range p).map fun j => frX (zG (redG (p + 1) n T p).1 (redG (p + 1) n T p).2 q j)) := fun x hx => by
  obtain ⟨j, hj, rfl⟩ := List.mem_map.mp hx
  have e : Ech (p + 1) n p T (redG (p + 1) n T p).1 (redG (p + 1) n T p).2 := red_ech (Nat.le_succ p)
  have rb : ∀ i j, bnd 1300 ((redG (p + 1) n T p).1 i j) := fun i j => bnd_mono (red_bnd hb p i j) (Nat.le_trans (eb_mono e.len) hm)
  generalize (redG (p + 1) n T p).1 = L at *
  generalize (redG (p + 1) n T p).2 = ps at *
  have ok2 : (zG L ps q j).2 ≠ 0 ∧ bnd 1300 (zG L ps q j).1 ∧ bnd 1300 (zG L ps q j).2 := by
    unfold zG
    by_cases h : j ∈ ps
    · rw [if_pos h]
      obtain ⟨i, hi⟩ := List.getElem?_of_mem h
      rw [idx_of (inc_nodup e.inc) hi]
      exact ⟨(e.piv i j hi).1, bnd_le (y := L i q) (by show (0 - L i q).natAbs ≤ _; omega) (rb _ _), rb _ _⟩
    · rw [if_neg h]
      exact ⟨by decide, bnd_one (by decide), bnd_one (by decide)⟩
  have f := frX_ok ok2.1
  exact ⟨f.1, bnd_le f.2.2.2.1 ok2.2.1, bnd_le f.2.2.2.2 ok2.2.2⟩
/-! ### empty rooms -/
def emF (m n : Nat) (R : Mat) : List (List Nat) → Option (Nat → Int)
  | [] => none
  | P :: Ps => match rgN n R P with
    | none => emF m n R Ps
    | some N => if dot (fun i => R i n) N m < 0 then some N else emF m n R Ps
def emN (m n : Nat) (R : Mat) : Option (Nat → Int) := emF m n R ((choN (n + 1) m).drop 1)
structure okRm (m n b : Nat) (R : Mat) : Prop where
  n1 : 1 ≤ n
  n3 : n ≤ 3
  m14 : m ≤ 14
  R : ∀ i j, bnd b (R i j)
  e3 : eb b n ≤ 1300
  b5 : b ≤ 5000
end Dl

/-! The D-layer, part 51: rows along points of at most three greater numbers (from parts 16 to 19, by a program). -/
namespace Dl
open PySem PySem.Spec
open PyProof.Rows L2
end Dl

/-! The D-layer, part 52: corners. -/
namespace Dl
open PySem PySem.Spec
open PyProof.Rows L2
/-! ### corners -/
def pR' (R : Mat) (P : List Nat) : Mat := fun i => R (P.getD i 0)
def tabI (n : Nat) (r : Nat → Int) : List Int := (List.range n).map r
def rkN (m n : Nat) (R : Mat) : Nat := (redG (n + 1) m R n).2.length
def liesB (m n : Nat) (R : Mat) (ps : List (Int × Int)) : Bool := ((List.range m).map fun k => (tabI n (R k), R k n)).all fun r => hld r.1 r.2 ps
def cn1 (m n : Nat) (R : Mat) (P : List Nat) : Option (List (Int × Int)) :=
  if P.length = rkN m n R then
    match solN P.length n (pR' R P) with
    | none => none
    | some (xs, r) => if r = rkN m n R then if liesB m n R (xs.map frX) = true then some (xs.map frX) else none else none
  else none
def cnN (m n : Nat) (R : Mat) : List (List (Int × Int)) := (choN (rkN m n R) m).filterMap (cn1 m n R)
theorem solN_ok {m c b : Nat} {T : Mat} {xs : List (Int × Int)} {r : Nat} (hb : ∀ i j, bnd b (T i j)) (hm : eb b m ≤ 1300) (h : solN m c T = some (xs, r)) : xs.length = c ∧ okP 1300 (xs.map frX) := by
  unfold solN at h
  have hW := xG_okW (m := m) (c := c) (T := T) hb hm
  by_cases hb : badG m c (redG (c + 1) m T c).1 (redG (c + 1) m T c).2.length = true
  · rw [if_pos hb] at h
    cases h
  · rw [if_neg hb] at h
    cases h
    exact ⟨by rw [List.length_map, List.length_range], hW⟩
end Dl

/-! The D-layer, part 53: the way out. -/
namespace Dl
open PySem PySem.Spec
open PyProof.Rows L2
/-! ### the way out -/
theorem cnN_ok {m n b : Nat} {R : Mat} (ok : okRm m n b R) {ps : List (Int × Int)} (h : ps ∈ cnN m n R) : ps.length = n ∧ okP 1300 ps := by
  obtain ⟨P, hP, h⟩ := List.mem_filterMap.mp h
  unfold cn1 at h
  by_cases hr : P.length = rkN m n R
  · rw [if_pos hr] at h
    have r4 : rkN m n R ≤ n := red_len _ _ _ _
    have n3 := ok.n3
    cases hs : solN P.length n (pR' R P) with
    | none => rw [hs] at h; cases h
    | some z =>
      obtain ⟨xs, r⟩ := z
      obtain ⟨x1, x2⟩ := solN_ok (m := P.length) (c := n) (T := pR' R P) (fun i j => ok.R _ _) (Nat.le_trans (eb_mono (show P.length ≤ n by omega)) ok.e3) hs
      rw [hs] at h
      have h : (if r = rkN m n R then if liesB m n R (xs.map frX) = true then some (xs.map frX) else none else none) = some ps := h
      split at h
      · split at h
        · cases h
          exact ⟨by rw [List.length_map, x1], x2⟩
        · cases h
      · cases h
  · rw [if_neg hr] at h
    cases h
end Dl

/-! Linear inequalities, part 10: the program's numbers are the theory's. -/
namespace Lp
open Dl
/-! ### fractions -/
def qv (p : Int × Int) : Rat := (p.1 : Rat) / (p.2 : Rat)
def ptQ (ps : List (Int × Int)) : V := fun j => qv (ps.getD j (0, 1))
theorem pos_q {i : Int} (h : 0 < i) : (0 : Rat) < (i : Rat) := Rat.intCast_pos.mpr h
theorem frX_q {p : Int × Int} (h : p.2 ≠ 0) : qv (frX p) = qv p := by
  obtain ⟨h1, h2, _⟩ := frX_ok h
  unfold qv
  have a := ne_q h
  have b := ne_q (show (frX p).2 ≠ 0 by omega)
  have c : ((frX p).1 : Rat) * (p.2 : Rat) = (p.1 : Rat) * ((frX p).2 : Rat) := by rw [← Rat.intCast_mul, ← Rat.intCast_mul, h2]
  grind
def lsum : List Int → List (Int × Int) → Rat
  | r :: rs, p :: ps => (r : Rat) * qv p + lsum rs ps
  | _, _ => 0
theorem ws_q : ∀ (rs : List Int) (ps : List (Int × Int)) (T B : Int), 0 < B → (∀ p ∈ ps, 0 < p.2) → qv (wsF rs ps T B) = (T : Rat) / (B : Rat) + lsum rs ps
  | [], ps, T, B, hB, h => by unfold wsF lsum qv; grind
  | r :: rs, [], T, B, hB, h => by unfold wsF lsum qv; grind
  | r :: rs, p :: ps, T, B, hB, h => by
    have p2 := h p List.mem_cons_self
    unfold wsF lsum
    rw [ws_q rs ps _ _ (Int.mul_pos hB p2) fun p hp => h p (List.mem_cons_of_mem _ hp), Rat.intCast_add, Rat.intCast_mul, Rat.intCast_mul, Rat.intCast_mul, Rat.intCast_mul]
    unfold qv
    have a := ne_q (show B ≠ 0 by omega)
    have b := ne_q (show p.2 ≠ 0 by omega)
    grind
theorem qd_head (a x : V) : ∀ n, qd a x (n + 1) = a 0 * x 0 + qd (fun j => a (j + 1)) (fun j => x (j + 1)) n
  | 0 => by unfold qd qd; grind
  | n + 1 => by
    show qd a x (n + 1) + a (n + 1) * x (n + 1) = _ + (qd (fun j => a (j + 1)) (fun j => x (j + 1)) n + a (n + 1) * x (n + 1))
    rw [qd_head a x n]
    grind
theorem lsum_tab : ∀ (ps : List (Int × Int)) (n : Nat) (r : Nat → Int), ps.length ≤ n → lsum (tabI n r) ps = qd (rq r) (ptQ ps) ps.length
  | [], n, r, _ => by
    cases n with
    | zero => rfl
    | succ n => unfold tabI; rw [List.range_succ_eq_map]; rfl
  | p :: ps, 0, r, h => absurd h (by rw [List.length_cons]; omega)
  | p :: ps, n + 1, r, h => by
    have e : tabI (n + 1) r = r 0 :: tabI n (fun j => r (j + 1)) := by
      unfold tabI
      rw [List.range_succ_eq_map, List.map_cons, List.map_map]
      rfl
    rw [e]
    show (r 0 : Rat) * qv p + lsum (tabI n fun j => r (j + 1)) ps = _
    rw [lsum_tab ps n _ (by rw [List.length_cons] at h; omega), List.length_cons, qd_head]
    rfl
theorem zero_div1 : ((0 : Int) : Rat) / ((1 : Int) : Rat) = 0 := by
  have : ((0 : Int) : Rat) = 0 := rfl
  rw [this]
  grind
theorem along_q {ps : List (Int × Int)} {n k : Nat} {r : Nat → Int} (hl : ps.length = n) (hk : n ≤ k) (h : ∀ p ∈ ps, 0 < p.2) : qv (wsF (tabI k r) ps 0 1) = qd (rq r) (ptQ ps) n := by
  rw [ws_q _ _ _ _ (by decide) h, lsum_tab ps k r (by omega), hl]
  have : ((0 : Int) : Rat) / ((1 : Int) : Rat) = 0 := zero_div1
  grind
theorem le_q {a : Int} {p : Int × Int} (h : 0 < p.2) : p.1 ≤ a * p.2 ↔ qv p ≤ (a : Rat) := by
  unfold qv
  have h' := pos_q h
  have n' := ne_q (show p.2 ≠ 0 by omega)
  rw [← Rat.intCast_le_intCast, Rat.intCast_mul]
  generalize (p.1 : Rat) = x at *
  generalize (p.2 : Rat) = y at *
  generalize (a : Rat) = z at *
  have e : x = x / y * y := by grind
  constructor
  · intro w
    exact Rat.le_of_mul_le_mul_right (by rw [← e]; exact w) h'
  · intro w
    have := Rat.mul_le_mul_of_nonneg_right w (Rat.le_of_lt h')
    rw [← e] at this
    exact this
theorem lies_q {ps : List (Int × Int)} {m n : Nat} {R : Mat} (hl : ps.length = n) (h : ∀ p ∈ ps, 0 < p.2) : liesB m n R ps = true ↔ (sysOf m n R).feas (ptQ ps) := by
  unfold liesB
  rw [List.all_eq_true]
  have key : ∀ k, hld (tabI n (R k)) (R k n) ps = true ↔ qd (rq (R k)) (ptQ ps) n ≤ (R k n : Rat) := fun k => by
    unfold hld
    rw [decide_eq_true_iff, le_q (wsF_pos _ _ _ _ (by decide) h), along_q hl (Nat.le_refl n) h]
  constructor
  · intro z k hk
    exact (key k).mp (z _ (List.mem_map.mpr ⟨k, List.mem_range.mpr hk, rfl⟩))
  · rintro z q hq
    obtain ⟨k, hk, rfl⟩ := List.mem_map.mp hq
    exact (key k).mpr (z k (List.mem_range.mp hk))
/-! ### numbers told by solution -/
theorem xG_q (R : Mat) (c : Nat) (ps : List Nat) (q : Nat) : qv (xG R c ps q) = xR R c ps q := by
  unfold xG xR
  split
  · rfl
  · unfold qv; exact zero_div1
theorem xG_ne {m c : Nat} {T R : Mat} {ps : List Nat} (e : Ech (c + 1) m c T R ps) (q : Nat) : (xG R c ps q).2 ≠ 0 := by
  unfold xG
  split
  · rename_i h
    obtain ⟨i, hi⟩ := List.getElem?_of_mem h
    rw [idx_of (inc_nodup e.inc) hi]
    exact (e.piv i q hi).1
  · decide
theorem xs_q {m c : Nat} {T R : Mat} {ps : List Nat} (e : Ech (c + 1) m c T R ps) {j : Nat} (hj : j < c) : ptQ (((List.range c).map (xG R c ps)).map frX) j = xR R c ps j := by
  unfold ptQ
  rw [List.map_map, List.getD_eq_getElem?_getD, rng_get hj]
  show qv (frX (xG R c ps j)) = _
  rw [frX_q (xG_ne e j), xG_q]
/-! ### made whole -/
theorem wN_q {xs : List (Int × Int)} {P : List Nat} {o : Int} (hd : ∀ x ∈ xs, 0 < x.2 ∧ x.2 ∣ o) (k : Nat) : (wN xs P o k : Rat) = (o : Rat) * emb P (ptQ xs) k := by
  unfold wN emb
  split
  · unfold ptQ
    rw [List.getD_eq_getElem?_getD]
    cases hx : xs[P.idxOf k]? with
    | none =>
      show (((0 : Int) * o.fdiv 1 : Int) : Rat) = (o : Rat) * qv (0, 1)
      rw [Int.zero_mul]
      have : qv (0, 1) = 0 := by unfold qv; exact zero_div1
      rw [this]
      have : ((0 : Int) : Rat) = 0 := rfl
      grind
    | some x =>
      obtain ⟨x1, c, hc⟩ := hd x (List.mem_of_getElem? hx)
      show ((x.1 * o.fdiv x.2 : Int) : Rat) = (o : Rat) * qv x
      rw [hc, Int.mul_fdiv_cancel_left _ (show x.2 ≠ 0 by omega), Rat.intCast_mul, Rat.intCast_mul]
      unfold qv
      have := ne_q (show x.2 ≠ 0 by omega)
      grind
  · have : ((0 : Int) : Rat) = 0 := rfl
    grind
end Lp

/-! The D-layer, part 54: the least bound of shares. -/
namespace Dl
open PySem PySem.Spec
open PyProof.Rows L2
/-! ### the least bound of shares -/
def lsV (m n : Nat) (R : Mat) (s : Int × (Nat → Int)) : Int × Int := frX (dot (fun i => R i n) s.2 m, s.1)
def lsF (m n : Nat) (R : Mat) (tg : Nat → Int) : Option (Int × (Nat → Int)) → List (List Nat) → Option (Int × (Nat → Int))
  | best, [] => best
  | best, P :: Ps => match shN n R P tg with
    | none => lsF m n R tg best Ps
    | some s => match best with
      | none => lsF m n R tg (some s) Ps
      | some c => if (lsV m n R s).1 * (lsV m n R c).2 < (lsV m n R c).1 * (lsV m n R s).2 then lsF m n R tg (some s) Ps else lsF m n R tg (some c) Ps
def lsN (m n : Nat) (R : Mat) (tg : Nat → Int) : Option (Int × (Nat → Int)) := lsF m n R tg none (choN n m)
theorem wN_bnd3 {xs : List (Int × Int)} {P : List Nat} (h : okW xs) (hl : xs.length ≤ 3) (j : Nat) : bnd 5300 (wN xs P (wO xs 1) j) := by
  obtain ⟨w1, w2, w3, w4⟩ := wO_ok xs 1 1 h (by decide) (bnd_one (by decide))
  unfold wN
  split
  · rw [List.getD_eq_getElem?_getD]
    cases hx : xs[P.idxOf j]? with
    | none => exact bnd_mono (bnd_mul (j := 1) (k := 4000) (bnd_zero) (bnd_le (fdiv_le (by decide)) (bnd_mono w4 (by omega)))) (by decide)
    | some x =>
      obtain ⟨x1, x2, x3⟩ := h x (List.mem_of_getElem? hx)
      exact bnd_mono (bnd_mul (j := 1300) (k := 4000) x2 (bnd_le (fdiv_le (by show 1 ≤ x.2; omega)) (bnd_mono w4 (by omega)))) (by decide)
  · exact bnd_zero
theorem shN_ok {m n b : Nat} {R : Mat} {P : List Nat} {t : Nat → Int} {s : Int × (Nat → Int)} (ok : okPk m n b R P) (ht : ∀ j, bnd b (t j)) (p3 : P.length ≤ 3) (h : shN n R P t = some s) : 0 < s.1 ∧ bnd 4000 s.1 ∧ ∀ j, bnd 5300 (s.2 j) := by
  unfold shN at h
  cases hs : solN n P.length (tM' R P t) with
  | none => rw [hs] at h; cases h
  | some z =>
    obtain ⟨xs, r⟩ := z
    obtain ⟨x1, x2⟩ := solN_ok (m := n) (c := P.length) (T := tM' R P t) (tM'_bnd ok.R ht) ok.e3 hs
    rw [hs] at h
    have h : (if r < P.length then none else if xs.any (fun x => decide ((frX x).1 < 0)) = true then none else some (wO (xs.map frX) 1, wN (xs.map frX) P (wO (xs.map frX) 1))) = some s := h
    have xl : (xs.map frX).length ≤ 3 := by rw [List.length_map]; omega
    split at h
    · cases h
    · split at h
      · cases h
      · cases h
        obtain ⟨w1, w2, w3, w4⟩ := wO_ok (xs.map frX) 1 1 x2 (by decide) (bnd_one (by decide))
        exact ⟨w1, bnd_mono w4 (by omega), wN_bnd3 x2 xl⟩
theorem lsV_ok {m n b : Nat} {R : Mat} {s : Int × (Nat → Int)} (hR : ∀ i j, bnd b (R i j)) (hb : b ≤ 1300) (hm : m ≤ 14) (h : 0 < s.1 ∧ bnd 4000 s.1 ∧ ∀ j, bnd 5300 (s.2 j)) : 0 < (lsV m n R s).2 ∧ bnd 7000 (lsV m n R s).1 ∧ bnd 4000 (lsV m n R s).2 ∧ fr (dot (fun i => R i n) s.2 m) s.1 = prD (lsV m n R s) := by
  obtain ⟨h1, h2, h3⟩ := h
  obtain ⟨x1, x2, _⟩ := fr_bnds h1 (bnd_mono (k := 7000) (dot_bnd (n := m) (r := fun i => R i n) (fun j _ => bnd_mono (hR j n) hb) fun j _ => h3 j) (by omega)) (bnd_mono (k := 7000) h2 (by omega))
  exact ⟨x1, x2, bnd_le (fdiv_le (z := s.1) (shr_ge (t := dot (fun i => R i n) s.2 m) h1)) (bnd_mono (k := 4000) h2 (by omega)), rfl⟩
def okSh (s : Int × (Nat → Int)) : Prop := 0 < s.1 ∧ bnd 4000 s.1 ∧ ∀ j, bnd 5300 (s.2 j)
end Dl

/-! Linear inequalities, part 11: shares and rings as the program tells them. -/
namespace Lp
open Dl
theorem nn_q {p : Int × Int} (h : 0 < p.2) : 0 ≤ p.1 ↔ 0 ≤ qv p := by
  unfold qv
  have h' := pos_q h
  have n' := ne_q (show p.2 ≠ 0 by omega)
  rw [← Rat.intCast_nonneg]
  generalize (p.1 : Rat) = x at *
  generalize (p.2 : Rat) = y at *
  have e : x = x / y * y := by grind
  constructor
  · intro w
    exact Rat.le_of_mul_le_mul_right (by rw [← e]; grind) h'
  · intro w
    have := Rat.mul_nonneg w (Rat.le_of_lt h')
    rw [← e] at this
    exact this
theorem ps_q {p : Int × Int} (h : 0 < p.2) : 0 < p.1 ↔ 0 < qv p := by
  have a := nn_q (p := (-p.1, p.2)) h
  have e : qv (-p.1, p.2) = - qv p := by
    unfold qv
    rw [Rat.intCast_neg]
    have n' := ne_q (show p.2 ≠ 0 by omega)
    grind
  rw [e] at a
  have a : 0 ≤ -p.1 ↔ 0 ≤ -qv p := a
  constructor
  · intro w
    have : ¬ 0 ≤ -p.1 := by omega
    rw [a] at this
    grind
  · intro w
    have : ¬ 0 ≤ -qv p := by grind
    rw [← a] at this
    omega
theorem lt_q {p q : Int × Int} (h : 0 < p.2) (g : 0 < q.2) : p.1 * q.2 < q.1 * p.2 ↔ qv p < qv q := by
  have a := ps_q (p := (q.1 * p.2 - p.1 * q.2, p.2 * q.2)) (Int.mul_pos h g)
  have e : qv (q.1 * p.2 - p.1 * q.2, p.2 * q.2) = qv q - qv p := by
    unfold qv
    rw [Rat.intCast_sub, Rat.intCast_mul, Rat.intCast_mul, Rat.intCast_mul]
    have n1 := ne_q (show p.2 ≠ 0 by omega)
    have n2 := ne_q (show q.2 ≠ 0 by omega)
    grind
  rw [e] at a
  have a : 0 < q.1 * p.2 - p.1 * q.2 ↔ 0 < qv q - qv p := a
  constructor
  · intro w
    have := a.mp (by omega)
    grind
  · intro w
    have := a.mpr (by grind)
    omega
theorem emb_congr {P : List Nat} {y z : V} (h : ∀ j, j < P.length → y j = z j) : emb P y = emb P z := funext fun k => by
  unfold emb
  split
  · exact h _ (List.idxOf_lt_length_of_mem (by assumption))
  · rfl
theorem wO_dvd {xs : List (Int × Int)} (h : okW xs) : 0 < wO xs 1 ∧ ∀ x ∈ xs, 0 < x.2 ∧ x.2 ∣ wO xs 1 := by
  obtain ⟨w1, w2, w3, w4⟩ := wO_ok xs 1 1 h (by decide) (bnd_one (by decide))
  exact ⟨w1, fun x hx => ⟨(h x hx).1, w3 x hx⟩⟩
/-! ### shares -/
theorem sh_link {m n b : Nat} {R : Mat} {P : List Nat} {t : Nat → Int} (ok : okPk m n b R P) (ht : ∀ j, bnd b (t j)) :
    (∀ s, shN n R P t = some s → Good n R P t ∧ 0 < s.1 ∧ ∀ k, (s.2 k : Rat) = (s.1 : Rat) * emb P (xP n R P t) k) ∧ (Good n R P t → ∃ s, shN n R P t = some s) := by
  have hW := xG_okW (m := n) (c := P.length) (T := tM R P t) (tM'_bnd ok.R ht) ok.e3
  have he := ech_of n P.length (tM R P t)
  have hx := fun j (hj : j < P.length) => xs_q he hj
  have hn : ∀ j, j < P.length → (0 ≤ xP n R P t j ↔ 0 ≤ (frX (xG (stp n P.length (tM R P t)).1 P.length (stp n P.length (tM R P t)).2 j)).1) := fun j hj => by
    have h2 := xG_ne he j
    rw [nn_q (frX_ok h2).1, frX_q h2, xG_q]
  unfold shN solN
  rw [show tM' R P t = tM R P t from rfl]
  cases hb : badG n P.length (stp n P.length (tM R P t)).1 (stp n P.length (tM R P t)).2.length with
  | true =>
    refine ⟨fun s h => ?_, fun g => ?_⟩
    · cases h
    · have := g.ok
      rw [hb] at this
      cases this
  | false =>
    rw [if_neg (by decide)]
    dsimp only
    by_cases hr : (stp n P.length (tM R P t)).2.length < P.length
    · rw [if_pos hr]
      refine ⟨(fun s h => nomatch h), fun g => ?_⟩
      have := g.ful
      omega
    rw [if_neg hr]
    have le := inc_len he.inc he.lt
    by_cases ha : ((List.range P.length).map (xG (redG (P.length + 1) n (tM R P t) P.length).1 P.length (redG (P.length + 1) n (tM R P t) P.length).2)).any (fun x => decide ((frX x).1 < 0)) = true
    · rw [if_pos ha]
      refine ⟨(fun s h => nomatch h), fun g => ?_⟩
      obtain ⟨x, hx, h⟩ := List.any_eq_true.mp ha
      obtain ⟨j, hj, rfl⟩ := List.mem_map.mp hx
      have hj := List.mem_range.mp hj
      have := (hn j hj).mp (g.nn j hj)
      have h := of_decide_eq_true h
      exact absurd this (Int.not_le.mpr h)
    · rw [if_neg ha]
      have g : Good n R P t := ⟨hb, Nat.le_antisymm le (Nat.not_lt.mp hr), fun j hj => (hn j hj).mpr (Int.not_lt.mp fun z => ha (List.any_eq_true.mpr ⟨_, List.mem_map.mpr ⟨j, List.mem_range.mpr hj, rfl⟩, decide_eq_true z⟩))⟩
      refine ⟨fun s h => ?_, fun _ => ⟨_, rfl⟩⟩
      cases h
      obtain ⟨w1, w2⟩ := wO_dvd hW
      refine ⟨g, w1, fun k => ?_⟩
      rw [wN_q w2, emb_congr hx]
/-- the shares over their times -/
def yS (s : Int × (Nat → Int)) : V := fun k => (s.2 k : Rat) / (s.1 : Rat)
theorem yS_of {s : Int × (Nat → Int)} {y : V} (h : 0 < s.1) (e : ∀ k, (s.2 k : Rat) = (s.1 : Rat) * y k) : yS s = y := funext fun k => by
  unfold yS
  rw [e k]
  have := ne_q (show s.1 ≠ 0 by omega)
  grind
theorem yS_qd {s : Int × (Nat → Int)} (h : 0 < s.1) (r : Nat → Int) (m : Nat) : (s.1 : Rat) * qd (yS s) (rq r) m = ((dot r s.2 m : Int) : Rat) := by
  rw [← qd_int, qd_comm (yS s), ← qd_smul_r]
  refine qd_congr (fun _ _ => rfl) fun k _ => ?_
  unfold yS rq
  have := ne_q (show s.1 ≠ 0 by omega)
  grind
theorem yS_at {s : Int × (Nat → Int)} (h : 0 < s.1) (m n : Nat) (R : Mat) (j : Nat) : (s.1 : Rat) * (sysOf m n R).at (yS s) j = ((dot (fun i => R i j) s.2 m : Int) : Rat) := yS_qd h (fun i => R i j) m
theorem yS_cost {s : Int × (Nat → Int)} (h : 0 < s.1) (m n : Nat) (R : Mat) : (sysOf m n R).cost (yS s) = qv (lsV m n R s) := by
  have e := yS_qd h (fun i => R i n) m
  unfold lsV
  rw [frX_q (show s.1 ≠ 0 by omega)]
  unfold qv
  dsimp only
  rw [← e]
  have := ne_q (show s.1 ≠ 0 by omega)
  show qd (yS s) (rq fun i => R i n) m = _
  grind
/-- the shares that shares_by tells -/
structure ShOk (m n : Nat) (R : Mat) (t : Nat → Int) (s : Int × (Nat → Int)) : Prop where
  pos : 0 < s.1
  nn : ∀ k, 0 ≤ s.2 k
  eq : ∀ j, j < n → dot (fun i => R i j) s.2 m = s.1 * t j
  for_ : (sysOf m n R).For (rq t) (yS s)
theorem sh_ok {m n b : Nat} {R : Mat} {P : List Nat} {t : Nat → Int} (ok : okPk m n b R P) (ht : ∀ j, bnd b (t j)) {s : Int × (Nat → Int)} (h : shN n R P t = some s) : ShOk m n R t s := by
  obtain ⟨g, p, e⟩ := (sh_link ok ht).1 s h
  have f := good_for (m := m) ok.nd ok.lt g
  have ey := yS_of p e
  have f' : (sysOf m n R).For (rq t) (yS s) := by rw [ey]; exact f
  refine ⟨p, fun k => ?_, fun j hj => ?_, f'⟩
  · have h0 := f.nn k
    have := Rat.mul_nonneg (Rat.le_of_lt (pos_q p)) h0
    rw [← e k] at this
    exact Rat.intCast_nonneg.mp this
  · have := yS_at p m n R j
    rw [f'.eq j hj] at this
    have z : ((s.1 * t j : Int) : Rat) = ((dot (fun i => R i j) s.2 m : Int) : Rat) := by rw [← this, Rat.intCast_mul]; rfl
    exact (Rat.intCast_inj.mp z).symm
theorem lsF_spec {m n : Nat} {R : Mat} {t : Nat → Int} : ∀ (Ps : List (List Nat)) (best : Option (Int × (Nat → Int))), (∀ P ∈ Ps, ∀ s, shN n R P t = some s → 0 < s.1) → (∀ s, best = some s → 0 < s.1) →
    (lsF m n R t best Ps = none → best = none ∧ ∀ P ∈ Ps, shN n R P t = none) ∧
    ∀ s, lsF m n R t best Ps = some s → (best = some s ∨ ∃ P ∈ Ps, shN n R P t = some s) ∧ (∀ c, best = some c → qv (lsV m n R s) ≤ qv (lsV m n R c)) ∧ ∀ P ∈ Ps, ∀ c, shN n R P t = some c → qv (lsV m n R s) ≤ qv (lsV m n R c)
  | [], best, _, _ => ⟨fun h => ⟨h, fun P hP => nomatch hP⟩, fun s h => ⟨.inl h, (fun c e => by have h : best = some s := h; rw [h] at e; cases e; exact Rat.le_refl), fun P hP => nomatch hP⟩⟩
  | P :: Ps, best, hp, hb => by
    have hp' := fun P h => hp P (List.mem_cons_of_mem _ h)
    have hP := hp P List.mem_cons_self
    have vp : ∀ s : Int × (Nat → Int), 0 < s.1 → 0 < (lsV m n R s).2 := fun s h => (frX_ok (show s.1 ≠ 0 by omega)).1
    unfold lsF
    cases hs : shN n R P t with
    | none =>
      obtain ⟨h1, h2⟩ := lsF_spec Ps best hp' hb
      dsimp only
      refine ⟨fun h => ⟨(h1 h).1, fun Q hQ => ?_⟩, fun s h => ?_⟩
      · rcases List.mem_cons.mp hQ with rfl | hQ
        · exact hs
        · exact (h1 h).2 Q hQ
      · obtain ⟨a, b, c⟩ := h2 s h
        refine ⟨a.imp id fun ⟨Q, hQ, e⟩ => ⟨Q, List.mem_cons_of_mem _ hQ, e⟩, b, fun Q hQ d e => ?_⟩
        rcases List.mem_cons.mp hQ with rfl | hQ
        · rw [hs] at e; cases e
        · exact c Q hQ d e
    | some s0 =>
      have p0 := hP s0 hs
      -- the better one of two
      have core : ∀ (c0 : Int × (Nat → Int)), 0 < c0.1 → (best = some c0 ∨ c0 = s0) → qv (lsV m n R c0) ≤ qv (lsV m n R s0) → (∀ c, best = some c → qv (lsV m n R c0) ≤ qv (lsV m n R c)) →
          (lsF m n R t (some c0) Ps = none → best = none ∧ ∀ Q ∈ P :: Ps, shN n R Q t = none) ∧
          ∀ s, lsF m n R t (some c0) Ps = some s → (best = some s ∨ ∃ Q ∈ P :: Ps, shN n R Q t = some s) ∧ (∀ c, best = some c → qv (lsV m n R s) ≤ qv (lsV m n R c)) ∧ ∀ Q ∈ P :: Ps, ∀ c, shN n R Q t = some c → qv (lsV m n R s) ≤ qv (lsV m n R c) := fun c0 cp ho hl hm => by
        obtain ⟨h1, h2⟩ := lsF_spec Ps (some c0) hp' (fun s e => by cases e; exact cp)
        refine ⟨(fun h => nomatch (h1 h).1), fun s h => ?_⟩
        obtain ⟨a, b, c⟩ := h2 s h
        have sc := b c0 rfl
        refine ⟨?_, fun d e => Rat.le_trans sc (hm d e), fun Q hQ d e => ?_⟩
        · rcases a with a | ⟨Q, hQ, e⟩
          · cases a
            rcases ho with ho | rfl
            · exact .inl ho
            · exact .inr ⟨P, List.mem_cons_self, hs⟩
          · exact .inr ⟨Q, List.mem_cons_of_mem _ hQ, e⟩
        · rcases List.mem_cons.mp hQ with rfl | hQ
          · rw [hs] at e; cases e; exact Rat.le_trans sc hl
          · exact c Q hQ d e
      cases best with
      | none => exact core s0 p0 (.inr rfl) Rat.le_refl fun c e => nomatch e
      | some c =>
        have cp := hb c rfl
        dsimp only
        have k := lt_q (vp s0 p0) (vp c cp)
        by_cases hz : (lsV m n R s0).1 * (lsV m n R c).2 < (lsV m n R c).1 * (lsV m n R s0).2
        · rw [if_pos hz]
          exact core s0 p0 (.inr rfl) Rat.le_refl fun d e => by cases e; exact Rat.le_of_lt (k.mp hz)
        · rw [if_neg hz]
          rw [k] at hz
          exact core c cp (.inl rfl) (Rat.not_lt.mp hz) fun d e => by cases e; exact Rat.le_refl
end Lp

/-! Linear inequalities, part 12: rings and corners as the program tells them. -/
namespace Lp
open Dl
/-! ### rings -/
theorem zs_q {n b : Nat} {R : Mat} {P : List Nat} (h0 : okW ((List.range P.length).map fun j => frX (zG (redG (P.length + 1) n (tM R P fun _ => 0) P.length).1 (redG (P.length + 1) n (tM R P fun _ => 0) P.length).2 b j)))
    (hl : frees P.length (stp n P.length (tM R P fun _ => 0)).2 = [b]) {j : Nat} (hj : j < P.length) :
    (zG (stp n P.length (tM R P fun _ => 0)).1 (stp n P.length (tM R P fun _ => 0)).2 b j).2 ≠ 0 ∧ qv (zG (stp n P.length (tM R P fun _ => 0)).1 (stp n P.length (tM R P fun _ => 0)).2 b j) = zP n R P b j := by
  have he := ech_of n P.length (tM R P fun _ => 0)
  rw [show zP n R P b j = zR (stp n P.length (tM R P fun _ => 0)).1 (stp n P.length (tM R P fun _ => 0)).2 b j from rfl]
  generalize (stp n P.length (tM R P fun _ => 0)).1 = L at *
  generalize (stp n P.length (tM R P fun _ => 0)).2 = ps at *
  unfold zR zG
  by_cases h : j ∈ ps
  · have hne : j ≠ b := fun z => by
      have : b ∈ frees P.length ps := by rw [hl]; exact List.mem_cons_self
      exact (frees_mem.mp this).2 (z ▸ h)
    rw [if_pos h, if_neg hne, if_pos h]
    refine ⟨?_, ?_⟩
    · obtain ⟨i, hi⟩ := List.getElem?_of_mem h
      rw [idx_of (inc_nodup he.inc) hi]
      exact (he.piv i j hi).1
    · unfold qv
      rw [Int.zero_sub, Rat.intCast_neg]
  · have : j ∈ frees P.length ps := frees_mem.mpr ⟨hj, h⟩
    rw [hl] at this
    have := List.mem_singleton.mp this
    rw [if_neg h, if_pos this]
    refine ⟨by decide, ?_⟩
    unfold qv
    have : ((1 : Int) : Rat) = 1 := rfl
    rw [this]
    grind
theorem rg_link {m n b : Nat} {R : Mat} {P : List Nat} (ok : okPk m n b R P) (p1 : 1 ≤ P.length) :
    (∀ N, rgN n R P = some N → ∃ q o, RingP n R P q ∧ 0 < o ∧ ∀ k, (N k : Rat) = ((o : Int) : Rat) * emb P (zP n R P q) k) ∧ ((∃ q, RingP n R P q) → ∃ N, rgN n R P = some N) := by
  have hW := fun q => zG_okW (n := n) (p := P.length) (T := tM R P fun _ => 0) (b := b) (tM'_bnd ok.R fun _ => bnd_zero) ok.e3 q
  have he := ech_of n P.length (tM R P fun _ => 0)
  have hf := frees_len he.inc he.lt
  unfold rgN
  rw [show (tM' R P fun _ => 0) = tM R P fun _ => 0 from rfl]
  by_cases hr : (stp n P.length (tM R P fun _ => 0)).2.length + 1 ≠ P.length
  · rw [if_pos hr]
    refine ⟨(fun s h => nomatch h), fun ⟨q, g⟩ => absurd g.len hr⟩
  rw [if_neg hr]
  have hr := Decidable.not_not.mp hr
  obtain ⟨q, hq⟩ : ∃ q, frees P.length (stp n P.length (tM R P fun _ => 0)).2 = [q] := List.length_eq_one_iff.mp (Nat.add_left_cancel (hf.trans hr.symm))
  have eq : (freeN P.length (stp n P.length (tM R P fun _ => 0)).2).getD 0 0 = q := by
    show (frees P.length (stp n P.length (tM R P fun _ => 0)).2).getD 0 0 = q
    rw [hq]
    rfl
  rw [eq]
  have hW := hW q
  have hn : ∀ j, j < P.length → (0 < zP n R P q j ↔ 0 < (frX (zG (stp n P.length (tM R P fun _ => 0)).1 (stp n P.length (tM R P fun _ => 0)).2 q j)).1) := fun j hj => by
    obtain ⟨h2, h3⟩ := zs_q hW hq hj
    rw [ps_q (frX_ok h2).1, frX_q h2, h3]
  by_cases ha : ((List.range P.length).map fun j => frX (zG (stp n P.length (tM R P fun _ => 0)).1 (stp n P.length (tM R P fun _ => 0)).2 q j)).any (fun x => decide (x.1 ≤ 0)) = true
  · rw [if_pos ha]
    refine ⟨(fun s h => nomatch h), fun ⟨q', g⟩ => ?_⟩
    have e : q' = q := by
      have := g.free
      rw [hq] at this
      exact ((List.cons.inj this).1).symm
    subst e
    obtain ⟨x, hx, h⟩ := List.any_eq_true.mp ha
    obtain ⟨j, hj, rfl⟩ := List.mem_map.mp hx
    have hj := List.mem_range.mp hj
    exact absurd ((hn j hj).mp (g.pos j hj)) (Int.not_lt.mpr (of_decide_eq_true h))
  · rw [if_neg ha]
    have g : RingP n R P q := ⟨hr, hq, fun j hj => (hn j hj).mpr (Int.not_le.mp fun z => ha (List.any_eq_true.mpr ⟨_, List.mem_map.mpr ⟨j, List.mem_range.mpr hj, rfl⟩, decide_eq_true z⟩))⟩
    refine ⟨fun s h => ?_, fun _ => ⟨_, rfl⟩⟩
    cases h
    obtain ⟨w1, w2⟩ := wO_dvd hW
    refine ⟨q, _, g, w1, fun k => ?_⟩
    rw [wN_q w2]
    congr 1
    refine congrFun (emb_congr fun j hj => ?_) k
    obtain ⟨h2, h3⟩ := zs_q hW hq hj
    unfold ptQ
    rw [List.getD_eq_getElem?_getD, rng_get hj]
    show qv (frX _) = _
    rw [frX_q h2, h3]
theorem emF_spec {m n : Nat} {R : Mat} : ∀ Ps : List (List Nat),
    (emF m n R Ps = none → ∀ P ∈ Ps, ∀ N, rgN n R P = some N → ¬ dot (fun i => R i n) N m < 0) ∧ ∀ N, emF m n R Ps = some N → (∃ P ∈ Ps, rgN n R P = some N) ∧ dot (fun i => R i n) N m < 0
  | [] => ⟨(fun _ P hP => nomatch hP), fun N h => nomatch h⟩
  | P :: Ps => by
    obtain ⟨h1, h2⟩ := emF_spec (m := m) (n := n) (R := R) Ps
    unfold emF
    cases hr : rgN n R P with
    | none =>
      dsimp only
      refine ⟨fun h Q hQ N e => ?_, fun N h => ?_⟩
      · rcases List.mem_cons.mp hQ with rfl | hQ
        · rw [hr] at e; cases e
        · exact h1 h Q hQ N e
      · obtain ⟨⟨Q, hQ, e⟩, c⟩ := h2 N h
        exact ⟨⟨Q, List.mem_cons_of_mem _ hQ, e⟩, c⟩
    | some N0 =>
      dsimp only
      by_cases hd : dot (fun i => R i n) N0 m < 0
      · rw [if_pos hd]
        refine ⟨(fun h => nomatch h), fun N h => ?_⟩
        cases h
        exact ⟨⟨P, List.mem_cons_self, hr⟩, hd⟩
      · rw [if_neg hd]
        refine ⟨fun h Q hQ N e => ?_, fun N h => ?_⟩
        · rcases List.mem_cons.mp hQ with rfl | hQ
          · rw [hr] at e; cases e; exact hd
          · exact h1 h Q hQ N e
        · obtain ⟨⟨Q, hQ, e⟩, c⟩ := h2 N h
          exact ⟨⟨Q, List.mem_cons_of_mem _ hQ, e⟩, c⟩
theorem pick_ok {m n b : Nat} {R : Mat} (ok : okRm m n b R) {P : List Nat} (hP : P ∈ choN (n + 1) m) : okPk m n b R P := by
  obtain ⟨p1, p2, p3⟩ := choN_mem.mp hP
  have := ok.n3
  exact ⟨ok.n3, ok.m14, inc_nodup p1, p2, by omega, ok.R, by omega, ok.e3⟩
theorem whole_at {N : Nat → Int} {y : V} {o : Int} (h : ∀ k, (N k : Rat) = (o : Rat) * y k) (m n : Nat) (R : Mat) (j : Nat) : ((dot (fun i => R i j) N m : Int) : Rat) = (o : Rat) * qd y (rq fun i => R i j) m := by
  rw [← qd_int, qd_comm y, ← qd_smul_r]
  exact qd_congr (fun _ _ => rfl) fun k _ => h k
/-- an empty room's shares -/
structure EmOk (m n : Nat) (R : Mat) (N : Nat → Int) : Prop where
  nn : ∀ k, 0 ≤ N k
  eq : ∀ j, j < n → dot (fun i => R i j) N m = 0
  lt : dot (fun i => R i n) N m < 0
  no : ∀ x, ¬ (sysOf m n R).feas x
theorem em_spec {m n b : Nat} {R : Mat} (ok : okRm m n b R) : (∀ N, emN m n R = some N → EmOk m n R N) ∧ (emN m n R = none → ∃ x, (sysOf m n R).feas x) := by
  unfold emN
  obtain ⟨h1, h2⟩ := emF_spec (m := m) (n := n) (R := R) ((choN (n + 1) m).drop 1)
  obtain ⟨tl, t1, t2⟩ := choN_tl (n + 1) m
  have hd : (choN (n + 1) m).drop 1 = tl := by rw [t1]; rfl
  rw [hd] at h1 h2 ⊢
  have tok : ∀ P ∈ tl, okPk m n b R P ∧ 1 ≤ P.length := fun P hP => ⟨pick_ok ok (by rw [t1]; exact List.mem_cons_of_mem _ hP), List.length_pos_iff.mpr (t2 P hP)⟩
  refine ⟨fun N h => ?_, fun h => ?_⟩
  · obtain ⟨⟨P, hP, e⟩, c⟩ := h2 N h
    obtain ⟨okp, p1⟩ := tok P hP
    obtain ⟨q, o, r, o0, hN⟩ := (rg_link okp p1).1 N e
    have cst : (sysOf m n R).cost (emb P (zP n R P q)) < 0 := Rat.not_le.mp fun z => by
      have e := whole_at hN m n R n
      have := Rat.mul_nonneg (Rat.le_of_lt (pos_q o0)) z
      rw [show (sysOf m n R).cost (emb P (zP n R P q)) = qd (emb P (zP n R P q)) (rq fun i => R i n) m from rfl, ← e] at this
      have := Rat.intCast_nonneg.mp this
      omega
    have s := ring_shut (m := m) okp.nd okp.lt r cst
    refine ⟨fun k => ?_, fun j hj => ?_, c, shut_empty s⟩
    · have := Rat.mul_nonneg (Rat.le_of_lt (pos_q o0)) (s.nn k)
      rw [← hN k] at this
      exact Rat.intCast_nonneg.mp this
    · have e := whole_at hN m n R j
      rw [show qd (emb P (zP n R P q)) (rq fun i => R i j) m = (sysOf m n R).at (emb P (zP n R P q)) j from rfl, s.z j hj] at e
      have e : ((dot (fun i => R i j) N m : Int) : Rat) = ((0 : Int) : Rat) := by
        have : ((0 : Int) : Rat) = 0 := rfl
        rw [e]
        grind
      exact Rat.intCast_inj.mp e
  · rcases (sysOf m n R).farkas with ⟨x, hx⟩ | ⟨y, y0, y1, y2⟩
    · exact ⟨x, hx⟩
    · exfalso
      have cut : ∀ a : V, qd (fun k => if k < m then y k else 0) a m = qd y a m := fun a => qd_congr (fun k hk => if_pos hk) fun _ _ => rfl
      have s0 : (sysOf m n R).Shut fun k => if k < m then y k else 0 := by
        refine ⟨fun k => ?_, fun k hk => if_neg (Nat.not_lt.mpr hk), fun j hj => (cut _).trans (y1 j hj), by rw [show (sysOf m n R).cost _ = _ from cut _]; exact y2⟩
        split
        · exact y0 k
        · exact Rat.le_refl
      obtain ⟨y', s, r⟩ := Sys.ring _ _ (Nat.le_refl _) s0
      obtain ⟨q, rp, c, l1, l2⟩ := shut_ring s r
      have hm : supp m y' ∈ choN (n + 1) m := choN_mem.mpr ⟨supp_inc m y', fun k hk => (supp_mem.mp hk).1, l2⟩
      have ht : supp m y' ∈ tl := by
        rw [t1] at hm
        rcases List.mem_cons.mp hm with e | hm
        · rw [e] at l1; exact absurd l1 (by decide)
        · exact hm
      obtain ⟨okp, p1⟩ := tok _ ht
      obtain ⟨N, hN⟩ := (rg_link okp p1).2 ⟨q, rp⟩
      refine h1 h _ ht N hN ?_
      obtain ⟨q', o, r', o0, hk⟩ := (rg_link okp p1).1 N hN
      have eqq : q' = q := by
        have := r'.free
        rw [rp.free] at this
        exact ((List.cons.inj this).1).symm
      subst eqq
      have e := whole_at hk m n R n
      have := Rat.mul_pos (pos_q o0) (show 0 < -((sysOf m n R).cost (emb (supp m y') (zP n R (supp m y') q'))) by grind)
      rw [Rat.mul_neg, show (sysOf m n R).cost (emb (supp m y') (zP n R (supp m y') q')) = qd (emb (supp m y') (zP n R (supp m y') q')) (rq fun i => R i n) m from rfl, ← e, ← Rat.intCast_neg] at this
      have := Rat.intCast_pos.mp this
      omega
end Lp

/-! Linear inequalities, part 13: corners as the program tells them; what most tells. -/
namespace Lp
open Dl
theorem feas_congr {m n : Nat} {R : Mat} {x y : V} (h : ∀ j, j < n → x j = y j) : (sysOf m n R).feas x → (sysOf m n R).feas y := fun f k hk => by
  have z : qd (rq (R k)) x n ≤ (R k n : Rat) := f k hk
  rw [qd_congr (fun _ _ => rfl) h] at z
  exact z
/-! ### corners -/
theorem cn_link {m n b : Nat} {R : Mat} {P : List Nat} (ok : okRm m n b R) :
    (∀ ps, cn1 m n R P = some ps → liesB m n R ps = true) ∧ (Corner m n R P → (sysOf m n R).feas (cP n R P) → ∃ ps, cn1 m n R P = some ps ∧ ∀ j, j < n → ptQ ps j = cP n R P j) := by
  have he := ech_of P.length n (pR R P)
  unfold cn1
  by_cases hr : P.length = rkN m n R
  · rw [if_pos hr]
    unfold solN
    rw [show pR' R P = pR R P from rfl]
    cases hb : badG P.length n (stp P.length n (pR R P)).1 (stp P.length n (pR R P)).2.length with
    | true =>
      refine ⟨(fun s h => nomatch h), fun g => ?_⟩
      have := g.ok
      rw [hb] at this
      cases this
    | false =>
      rw [if_neg (by decide)]
      dsimp only
      by_cases hk : (stp P.length n (pR R P)).2.length = rkN m n R
      · rw [if_pos hk]
        generalize hxs : ((List.range n).map (xG (stp P.length n (pR R P)).1 n (stp P.length n (pR R P)).2)).map frX = ps
        have hq : ∀ j, j < n → ptQ ps j = cP n R P j := fun j hj => by
          rw [← hxs]
          exact xs_q he hj
        have hp : ps.length = n ∧ ∀ p ∈ ps, 0 < p.2 := by
          rw [← hxs]
          refine ⟨by rw [List.length_map, List.length_map, List.length_range], fun p hp => ?_⟩
          obtain ⟨x, hx, rfl⟩ := List.mem_map.mp hp
          obtain ⟨j, _, rfl⟩ := List.mem_map.mp hx
          exact (frX_ok (xG_ne he j)).1
        by_cases hl : liesB m n R ps = true
        · rw [if_pos hl]
          exact ⟨fun s h => by cases h; exact hl, fun _ _ => ⟨ps, rfl, hq⟩⟩
        · rw [if_neg hl]
          refine ⟨(fun s h => nomatch h), fun _ f => ?_⟩
          exact absurd ((lies_q hp.1 hp.2).mpr (feas_congr (fun j hj => (hq j hj).symm) f)) hl
      · rw [if_neg hk]
        exact ⟨(fun s h => nomatch h), fun g => absurd g.ful hk⟩
  · rw [if_neg hr]
    exact ⟨(fun s h => nomatch h), fun g => absurd g.len hr⟩
structure CnOk (m n : Nat) (R : Mat) (ps : List (Int × Int)) : Prop where
  len : ps.length = n
  ok : okP 1300 ps
  lies : liesB m n R ps = true
  feas : (sysOf m n R).feas (ptQ ps)
theorem cn_ok {m n b : Nat} {R : Mat} (ok : okRm m n b R) {ps : List (Int × Int)} (h : ps ∈ cnN m n R) : CnOk m n R ps := by
  obtain ⟨h1, h2⟩ := cnN_ok ok h
  obtain ⟨P, hP, e⟩ := List.mem_filterMap.mp h
  have := (cn_link ok).1 ps e
  exact ⟨h1, h2, this, (lies_q h1 fun p hp => (h2 p hp).1).mp this⟩
/-- where the rows let a row come to no more than v, and to v at a point, a corner has it -/
theorem cn_top {m n b : Nat} {R : Mat} {c : V} {v : Rat} (ok : okRm m n b R) (top : ∀ x, (sysOf m n R).feas x → qd c x n ≤ v) {x : V} (hx : (sysOf m n R).feas x) (hv : qd c x n = v) :
    ∃ ps ∈ cnN m n R, qd c (ptQ ps) n = v := by
  obtain ⟨x', f', v', full⟩ := Sys.corner (S := sysOf m n R) (c := c) top _ x (Nat.le_refl _) hx hv
  obtain ⟨P, g, e, f⟩ := corner_pick f' full
  obtain ⟨ps, h1, h2⟩ := (cn_link ok).2 g f
  refine ⟨ps, List.mem_filterMap.mpr ⟨P, choN_mem.mpr ⟨g.inc, g.lt, Nat.le_of_eq g.len⟩, h1⟩, ?_⟩
  rw [qd_congr (a := c) (b := c) (fun _ _ => rfl) h2]
  exact (same_row (S := sysOf m n R) top f' e).trans v'
/-! ### most -/
def mpB (m n : Nat) (R : Mat) (t : Nat → Int) (s : Int × (Nat → Int)) (ps : List (Int × Int)) : Bool := decide (frX (wsF (tabI (n + 1) t) ps 0 1) = lsV m n R s)
theorem frX_eq {p q : Int × Int} (hp : 0 < p.2) (hq : 0 < q.2) : frX p = frX q ↔ qv p = qv q := by
  constructor
  · intro h
    rw [← frX_q (show p.2 ≠ 0 by omega), h, frX_q (by omega)]
  · intro h
    have hx : p.1 * q.2 = q.1 * p.2 := by
      have n1 := ne_q (show p.2 ≠ 0 by omega)
      have n2 := ne_q (show q.2 ≠ 0 by omega)
      unfold qv at h
      have : ((p.1 * q.2 : Int) : Rat) = ((q.1 * p.2 : Int) : Rat) := by
        rw [Rat.intCast_mul, Rat.intCast_mul]
        grind
      exact Rat.intCast_inj.mp this
    have f := fr_eq (t := p.1) (t' := q.1) hp hq hx
    have f : prD (frX p) = prD (frX q) := f
    unfold prD pr at f
    injection f with f
    injection f with f1 f2
    injection f2 with f2 _
    injection f1 with f1
    injection f2 with f2
    exact Prod.ext f1 f2
theorem pick_ok2 {m n b : Nat} {R : Mat} (ok : okRm m n b R) {P : List Nat} (hP : P ∈ choN n m) : okPk m n b R P := by
  obtain ⟨p1, p2, p3⟩ := choN_mem.mp hP
  have := ok.n3
  exact ⟨ok.n3, ok.m14, inc_nodup p1, p2, by omega, ok.R, by omega, ok.e3⟩
theorem ls_spec {m n b : Nat} {R : Mat} {t : Nat → Int} (ok : okRm m n b R) (ht : ∀ j, bnd b (t j)) {x0 : V} (hx : (sysOf m n R).feas x0) :
    (lsN m n R t = none → ∀ y, (sysOf m n R).For (rq t) y → ¬ (sysOf m n R).indep y) ∧
    ∀ s, lsN m n R t = some s → ShOk m n R t s ∧ okSh s ∧ ∃ ps ∈ cnN m n R, qd (rq t) (ptQ ps) n = qv (lsV m n R s) := by
  have pos : ∀ P ∈ choN n m, ∀ s, shN n R P t = some s → 0 < s.1 := fun P hP s e => (sh_ok (pick_ok2 ok hP) ht e).pos
  obtain ⟨h1, h2⟩ := lsF_spec (choN n m) none pos (fun s e => nomatch e)
  -- independent shares are told
  have all : ∀ y, (sysOf m n R).For (rq t) y → (sysOf m n R).indep y → ∃ P ∈ choN n m, ∃ s, shN n R P t = some s ∧ yS s = y := fun y f i => by
    obtain ⟨g, e⟩ := for_good f i
    have hl : (supp m y).length ≤ n := by
      rw [← g.ful]
      exact (ech_of n (supp m y).length (tM R (supp m y) t)).len
    have hP : supp m y ∈ choN n m := choN_mem.mpr ⟨supp_inc m y, fun k hk => (supp_mem.mp hk).1, hl⟩
    obtain ⟨k1, k2⟩ := sh_link (pick_ok2 ok hP) ht
    obtain ⟨s, hs⟩ := k2 g
    obtain ⟨_, p, ey⟩ := k1 s hs
    exact ⟨_, hP, s, hs, by rw [yS_of p ey, e]⟩
  refine ⟨fun h y f i => ?_, fun s h => ?_⟩
  · obtain ⟨P, hP, s, hs, _⟩ := all y f i
    rw [(h1 h).2 P hP] at hs
    cases hs
  · obtain ⟨a, _, c⟩ := h2 s h
    rcases a with a | ⟨P, hP, hs⟩
    · cases a
    have so := sh_ok (pick_ok2 ok hP) ht hs
    have sl : P.length ≤ n := (choN_mem.mp hP).2.2
    have n3 := ok.n3
    refine ⟨so, shN_ok (pick_ok2 ok hP) ht (by omega) hs, ?_⟩
    obtain ⟨x, fx, vx⟩ := Sys.strong (S := sysOf m n R) (c := rq t) (v := qv (lsV m n R s)) hx (fun y f i => by
      obtain ⟨P', hP', s', hs', e⟩ := all y f i
      have := c P' hP' s' hs'
      rw [← yS_cost (sh_ok (pick_ok2 ok hP') ht hs').pos, e] at this
      exact this) ⟨yS s, so.for_, yS_cost so.pos m n R⟩
    exact cn_top ok (fun x f => by
      have := so.for_.bound f
      rw [yS_cost so.pos] at this
      exact this) fx vx
structure WyOk (m n : Nat) (R : Mat) (t w : Nat → Int) : Prop where
  le : ∀ k, k < m → dot (R k) w n ≤ 0
  gt : 0 < dot t w n
/-- what most tells -/
structure MoOk (m n : Nat) (R : Mat) (t : Nat → Int) (s : Int × (Nat → Int)) (ps : List (Int × Int)) : Prop where
  sh : ShOk m n R t s
  ks : okSh s
  cn : CnOk m n R ps
  val : qd (rq t) (ptQ ps) n = qv (lsV m n R s)
theorem most_some {m n b : Nat} {R : Mat} {t : Nat → Int} (ok : okRm m n b R) (ht : ∀ j, bnd b (t j)) (he : emN m n R = none) {s : Int × (Nat → Int)} (h : lsN m n R t = some s) :
    ∃ ps pss, (cnN m n R).filter (mpB m n R t s) = ps :: pss ∧ MoOk m n R t s ps := by
  obtain ⟨x, hx⟩ := (em_spec ok).2 he
  obtain ⟨so, ks, ps, hp, v⟩ := (ls_spec ok ht hx).2 s h
  have tell : ∀ ps, ps ∈ cnN m n R → (mpB m n R t s ps = true ↔ qd (rq t) (ptQ ps) n = qv (lsV m n R s)) := fun ps hp => by
    have co := cn_ok ok hp
    have hb : ∀ p ∈ ps, 0 < p.2 := fun p hp => (co.ok p hp).1
    unfold mpB
    rw [decide_eq_true_iff]
    unfold lsV
    rw [frX_eq (wsF_pos _ _ _ _ (by decide) hb) so.pos, along_q co.len (Nat.le_succ n) hb, frX_q (show s.1 ≠ 0 by have := so.pos; omega)]
  have hm : ps ∈ (cnN m n R).filter (mpB m n R t s) := List.mem_filter.mpr ⟨hp, (tell ps hp).mpr v⟩
  cases hc : (cnN m n R).filter (mpB m n R t s) with
  | nil => rw [hc] at hm; cases hm
  | cons qs pss =>
    have hq : qs ∈ (cnN m n R).filter (mpB m n R t s) := by rw [hc]; exact List.mem_cons_self
    obtain ⟨q1, q2⟩ := List.mem_filter.mp hq
    exact ⟨qs, pss, rfl, so, ks, cn_ok ok q1, (tell qs q1).mp q2⟩
end Lp

/-! The D-layer, part 55: the most. -/
namespace Dl
open PySem PySem.Spec
open PyProof.Rows L2
/-! ### the most -/
end Dl

/-! The D-layer, part 56: what the laws of the most draw and test. -/
namespace Dl
open PySem PySem.Spec
open PyProof.Rows L2
/-! ### the least of a list -/
/-! ### points -/
theorem fr_self {t b : Int} (hb : 0 < b) (hg : (Int.gcd t b : Int) = 1) : fr t b = pr t b := by
  unfold fr shr
  rw [if_neg (by omega), hg, Int.fdiv_one, Int.fdiv_one]
/-- a fraction in lowest terms -/
def okF (p : Int × Int) : Prop := 0 < p.2 ∧ (Int.gcd p.1 p.2 : Int) = 1 ∧ bnd 8000 p.2
abbrev roomR (rs : List (Nat → Int)) : Mat := fun i => rs.getD i (fun _ => 0)
structure okR9 (n : Nat) (r : Nat → Int) : Prop where
  lo : ∀ j, j < n → bnd 30 (r j)
  all : ∀ j, bnd 74 (r j)
end Dl

/-! Linear inequalities, part 14: what most tells, as the laws test it. -/
namespace Lp
open Dl
/-! ### points over one bottom -/
theorem ls_cross {m n : Nat} {R : Mat} {s : Int × (Nat → Int)} (h : 0 < s.1) : dot (fun i => R i n) s.2 m * (lsV m n R s).2 = s.1 * (lsV m n R s).1 := by
  obtain ⟨_, h2, _⟩ := frX_ok (p := (dot (fun i => R i n) s.2 m, s.1)) (show s.1 ≠ 0 by omega)
  have h2 : (lsV m n R s).1 * s.1 = dot (fun i => R i n) s.2 m * (lsV m n R s).2 := h2
  rw [← h2, Int.mul_comm]
theorem ls_okF {m n b : Nat} {R : Mat} {s : Int × (Nat → Int)} (ok : okRm m n b R) (h : okSh s) : okF (lsV m n R s) ∧ bnd 7000 (lsV m n R s).1 ∧ bnd 4000 (lsV m n R s).2 := by
  have b6 : b ≤ 1300 := Nat.le_trans (eb_mono (b := b) (Nat.zero_le n)) ok.e3
  obtain ⟨v1, v2, v3, _⟩ := lsV_ok (m := m) (n := n) (s := s) ok.R b6 ok.m14 h
  refine ⟨⟨v1, ?_, bnd_mono v3 (by decide)⟩, v2, v3⟩
  exact (frX_ok (p := (dot (fun i => R i n) s.2 m, s.1)) (show s.1 ≠ 0 by have := h.1; omega)).2.2.1
end Lp

/-! The D-layer, part 57: shares for a target, a point beyond. -/
namespace Dl
open PySem PySem.Spec
open PyProof.Rows L2
end Dl

/-! Linear inequalities, part 15: shares for a target, from part 57. -/
namespace Lp
open Dl
/-- shares that show a target -/
structure SfOk (m n : Nat) (R : Mat) (t : Nat → Int) (un : Int) (s : Int × (Nat → Int)) : Prop where
  n0 : 0 ≤ s.1
  nn : ∀ k, 0 ≤ s.2 k
  b0 : bnd 4000 s.1
  bn : ∀ k, bnd 7000 (s.2 k)
  eq : ∀ j, j < n → dot (fun i => R i j) s.2 m = s.1 * t j
  le : 0 < s.1 → dot (fun i => R i n) s.2 m ≤ s.1 * un
  lt : s.1 = 0 → dot (fun i => R i n) s.2 m < 0
end Lp

/-! The D-layer, part 58: rooms grown. -/
namespace Dl
open PySem PySem.Spec
open PyProof.Rows L2
/-! ### the worst pushes -/
def mx (i j : Int) : Int := if j > i then j else i
/-- the most of numbers times what lies between bounds -/
def wF (a : Nat → Int) : List (Int × Int) → Nat → Int → Int
  | [], _, s => s
  | q :: ps, i, s => wF a ps (i + 1) (s + mx (a i * q.1) (a i * q.2))
/-! ### closed things -/
def closedB (n : Nat) (ms : List Md) : Bool := ms.all fun m => decide (tabI n m.steer = tabI n fun _ => 0)
theorem eqv_tabs (n : Nat) (F G : Nat → Int) : PyData.eqv (D.lst (tabD n F)).py (D.lst (tabD n G)).py = decide (tabI n F = tabI n G) := by
  have e : ∀ F : Nat → Int, tabD n F = (tabI n F).map D.int := fun F => by
    unfold tabI tabD
    rw [List.map_map]
    rfl
  rw [e, e]
  exact eqv_lst _ _
abbrev g_Thing_is_closed (CM CT : Addr) : DF := fun ds Q _ => ∃ (n : Nat) (ps : List (Int × Int)) (ms : List Md), ds = [thI CT n ps (ms.map (mdI CM n ps.length))] ∧ 1 ≤ n ∧ n ≤ 10 ∧ Q (.bl (closedB n ms))
abbrev N_Thing_is_closed : List Str := ["self", "mode"]
def tb_Thing_is_closed (K : PySem.W.Frag) : DS :=
  (dRet (dCB kAll (dCons (dFz (dLcN (dSeq (dFld K "ways" (dVar 0))) (gNm 1) dYes (dOp kEq (dFld K "steer" (dVar 1)) (dOp kMul (dLst (dCons (dC (.int 0)) dNil)) (dFld K "many" (dVar 0)))) [1])) dNil)))
theorem okk_tabL' (k n : Nat) (F : Nat → Int) : (D.lst (tabD n F)).okk (k + 1) = true := by
  unfold D.okk
  exact okk_tab _ _ _
theorem rd_Thing_is_closed {K : PySem.W.Frag} {CM CT : Addr} (hK : ThK K CM CT) (ds : List D) (Q E : EQ) (_ : ds.length = 1) (h : g_Thing_is_closed CM CT ds Q E) : tb_Thing_is_closed K (dE Q E) (startD N_Thing_is_closed ds) := by
  obtain ⟨n, ps, ms, rfl, n1, n10, q⟩ := h
  have k1 := hK.f_Thing_ways
  have k2 := hK.f_Thing_many
  have k3 := hK.f_Mode_steer
  unfold tb_Thing_is_closed dE thI thF
  walk_at "go"
  refine compL_fun (mdI CM n ps.length) (fun m => .bl (decide (tabI n m.steer = tabI n fun _ => 0))) ms (fun m hm K1 K0 hK' => ?_) ?_
  · unfold mdI mdF
    walk_at "go"
    rw [show (n : Int).toNat = n from rfl, rep_tab]
    refine ⟨few_of (by rw [tab_len]; omega), ?_⟩
    walk_at "go"
    refine ⟨plain_of (okk_tabL' 63 _ _), plain_of (okk_tabL' 63 _ _), ?_⟩
    rw [eqv_tabs]
    exact hK'
  have e : ms.map (fun m => D.bl (decide (tabI n m.steer = tabI n fun _ => 0))) = (ms.map fun m => decide (tabI n m.steer = tabI n fun _ => 0)).map D.bl := by rw [List.map_map]; rfl
  rw [e]
  walk_at "go"
  rw [blsOf_map]
  walk_at "go"
  rw [List.all_map]
  exact q
/-! ### what most tells, in short -/
def moV (m n : Nat) (R : Mat) (t : Nat → Int) : Sum Bool (Int × Int) :=
  match emN m n R with
  | some _ => .inl true
  | none => match lsN m n R t with
    | none => .inl false
    | some s => .inr (lsV m n R s)
/-- the least whole number not below -/
def cl (p : Int × Int) : Int := 0 - (0 - p.1).fdiv p.2
/-! ### the first room -/
abbrev Rp := (Nat → Int) × Int
def extT (n : Nat) (t : Nat → Int) (un : Int) : Nat → Int := fun j => if j = n then un else t j
theorem extT_at (n : Nat) (t : Nat → Int) (b : Int) : extT n t b n = b := if_pos rfl
theorem extT_lt {n j : Nat} {t : Nat → Int} {b : Int} (h : j < n) : extT n t b j = t j := if_neg (by omega)
/-! ### a bound behind a turn -/
theorem wF_bnd {a : Nat → Int} {A B : Nat} (ha : ∀ j, bnd A (a j)) : ∀ (ps : List (Int × Int)) (i k : Nat) (s : Int), (∀ q ∈ ps, bnd B q.1 ∧ bnd B q.2) → bnd (A + B + k) s → bnd (A + B + k + ps.length) (wF a ps i s)
  | [], i, k, s, _, hs => hs
  | q :: ps, i, k, s, hp, hs => by
    obtain ⟨q1, q2⟩ := hp q List.mem_cons_self
    have m1 : bnd (A + B + k) (mx (a i * q.1) (a i * q.2)) := by
      unfold mx
      split
      · exact bnd_mono (bnd_mul (ha i) q2) (by omega)
      · exact bnd_mono (bnd_mul (ha i) q1) (by omega)
    have := wF_bnd ha ps (i + 1) (k + 1) (s + mx (a i * q.1) (a i * q.2)) (fun q h => hp q (List.mem_cons_of_mem _ h)) (bnd_mono (bnd_add hs m1) (by omega))
    rw [List.length_cons]
    exact bnd_mono this (by omega)
def aheadT (n : Nat) (m : Md) (t : Nat → Int) : Nat → Int := fun j => if j < n then dot t (fun i => m.nexts i j) n else 0
def pushT (n : Nat) (m : Md) (t : Nat → Int) : Nat → Int := fun j => dot t (fun i => m.push i j) n
def moreN (n : Nat) (ps : List (Int × Int)) (m : Md) (t : Nat → Int) : Int := wF (pushT n m t) ps 0 0 + dot t m.add n
def bbN (n : Nat) (ps : List (Int × Int)) (m : Md) (rs : List (Nat → Int)) (t : Nat → Int) : Sum Bool Int :=
  match moV (rs ++ m.rows).length n (roomR (rs ++ m.rows)) (aheadT n m t) with
  | .inl e => .inl e
  | .inr v => .inr (cl (v.1 + moreN n ps m t * v.2, v.2 * m.div))
/-- rows behind which most may be asked -/
structure okRs (n b : Nat) (rs : List (Nat → Int)) : Prop where
  n1 : 1 ≤ n
  n3 : n ≤ 3
  len : rs.length ≤ 13
  b1 : 1 ≤ b
  R : ∀ r ∈ rs, ∀ j, bnd b (r j)
  e : eb b n ≤ 1300
theorem okRs.rm {n b : Nat} {rs : List (Nat → Int)} (h : okRs n b rs) : okRm rs.length n b (roomR rs) := by
  have hb : b ≤ 1300 := Nat.le_trans (eb_mono (b := b) (Nat.zero_le n)) h.e
  refine ⟨h.n1, h.n3, by have := h.len; omega, fun i j => ?_, h.e, by omega⟩
  unfold roomR
  rw [List.getD_eq_getElem?_getD]
  cases hr : rs[i]? with
  | none => exact bnd_zero
  | some r => exact h.R r (List.mem_of_getElem? hr) j
structure okBb (n b : Nat) (ps : List (Int × Int)) (m : Md) (rs : List (Nat → Int)) (t : Nat → Int) : Prop where
  rs : okRs n b (rs ++ m.rows)
  pl : ps.length ≤ 10
  pb : ∀ q ∈ ps, bnd 1000 q.1 ∧ bnd 1000 q.2
  md : okMd 1000 m
  dv : 1 ≤ m.div
  bt : ∀ j, bnd 1000 (t j)
  ba : ∀ j, bnd b (aheadT n m t j)
/-! ### grown once -/
def gbN (n : Nat) (ps : List (Int × Int)) (rs : List (Nat → Int)) (t : Nat → Int) : List Md → Int → Option Int
  | [], b => some b
  | m :: ms, b => match bbN n ps m rs t with
    | .inl false => none
    | .inl true => gbN n ps rs t ms b
    | .inr z => gbN n ps rs t ms (mx b z)
def gwF (n : Nat) (ps : List (Int × Int)) (ms : List Md) (rs : List (Nat → Int)) : List Rp → Option (List Rp)
  | [] => some []
  | r :: rl => match gbN n ps rs r.1 ms r.2 with
    | none => none
    | some b => (gwF n ps ms rs rl).map ((r.1, b) :: ·)
abbrev rowsT (n : Nat) (rl : List Rp) : List (Nat → Int) := rl.map fun r => extT n r.1 r.2
def gwN (n : Nat) (ps : List (Int × Int)) (ms : List Md) (rl : List Rp) : Option (List Rp) := gwF n ps ms (rowsT n rl) rl
/-! ### grown -/
end Dl

/-! Linear inequalities, part 16: the most in a box. -/
namespace Lp
open Dl
/-- a side's bound, a side's row -/
def sdV (bs : List (Int × Int)) (k s : Nat) : Int := if s = 0 then (bs.getD k (0, 0)).1 else (bs.getD k (0, 0)).2
def sdR (n : Nat) (bs : List (Int × Int)) (k s : Nat) : Nat → Int := fun j => if j = n then (2 * (s : Int) - 1) * sdV bs k s else if j = k then 2 * (s : Int) - 1 else 0
/-- rows that are a box's sides, all of them -/
structure BoxRs (n : Nat) (bs : List (Int × Int)) (rs : List (Nat → Int)) : Prop where
  is : ∀ r ∈ rs, ∃ k s, k < n ∧ s < 2 ∧ ∀ j, j ≤ n → r j = sdR n bs k s j
  all : ∀ k s, k < n → s < 2 → ∃ r ∈ rs, ∀ j, j ≤ n → r j = sdR n bs k s j
def inB (n : Nat) (bs : List (Int × Int)) (x : V) : Prop := ∀ k, k < n → (sdV bs k 0 : Rat) ≤ x k ∧ x k ≤ (sdV bs k 1 : Rat)
section
variable {n : Nat} {bs : List (Int × Int)} {rs : List (Nat → Int)}
/-- the ends that a row wants -/
def endN (bs : List (Int × Int)) (t : Nat → Int) : Nat → Int := fun k => if 0 < t k then sdV bs k 1 else sdV bs k 0
theorem end_top {t : Nat → Int} {x : V} (hx : inB n bs x) : ∀ k, k ≤ n → qd (rq t) x k ≤ qd (rq t) (rq (endN bs t)) k
  | 0, _ => Rat.le_refl
  | k + 1, hk => by
    obtain ⟨a, b⟩ := hx k (by omega)
    have ih := end_top (t := t) hx k (by omega)
    unfold qd
    have key : rq t k * x k ≤ rq t k * rq (endN bs t) k := by
      show (t k : Rat) * x k ≤ (t k : Rat) * ((endN bs t k : Int) : Rat)
      unfold endN
      by_cases hp : 0 < t k
      · rw [if_pos hp]
        exact Rat.mul_le_mul_of_nonneg_left b (Rat.le_of_lt (pos_q hp))
      · rw [if_neg hp]
        have hn := Rat.intCast_nonneg.mpr (show 0 ≤ -(t k) by omega)
        rw [Rat.intCast_neg] at hn
        have := Rat.mul_le_mul_of_nonneg_left a hn
        grind
    grind
/-- the most is what worst_of adds up -/
theorem dot_head (r y : Nat → Int) : ∀ n, dot r y (n + 1) = r 0 * y 0 + dot (fun k => r (k + 1)) (fun k => y (k + 1)) n
  | 0 => by unfold dot dot; omega
  | n + 1 => by
    show dot r y (n + 1) + r (n + 1) * y (n + 1) = _ + (dot (fun k => r (k + 1)) (fun k => y (k + 1)) n + r (n + 1) * y (n + 1))
    rw [dot_head r y n]
    omega
theorem wF_dot (a : Nat → Int) : ∀ (ps : List (Int × Int)) (i : Nat) (s : Int), (∀ q ∈ ps, q.1 ≤ q.2) → wF a ps i s = s + dot (fun k => a (i + k)) (fun k => if 0 < a (i + k) then (ps.getD k (0, 0)).2 else (ps.getD k (0, 0)).1) ps.length
  | [], i, s, _ => by unfold wF; show s = s + 0; omega
  | q :: ps, i, s, h => by
    have hq := h q List.mem_cons_self
    unfold wF
    rw [wF_dot a ps (i + 1) _ fun q hq => h q (List.mem_cons_of_mem _ hq), List.length_cons, dot_head]
    have e1 : (fun k => a (i + 1 + k)) = fun k => a (i + (k + 1)) := funext fun k => by rw [show i + 1 + k = i + (k + 1) by omega]
    have e2 : (fun k => if 0 < a (i + 1 + k) then (ps.getD k (0, 0)).2 else (ps.getD k (0, 0)).1) = fun k => if 0 < a (i + (k + 1)) then ((q :: ps).getD (k + 1) (0, 0)).2 else ((q :: ps).getD (k + 1) (0, 0)).1 := funext fun k => by
      rw [show i + 1 + k = i + (k + 1) by omega]
      rfl
    rw [e1, e2]
    have e3 : mx (a i * q.1) (a i * q.2) = a (i + 0) * if 0 < a (i + 0) then ((q :: ps).getD 0 (0, 0)).2 else ((q :: ps).getD 0 (0, 0)).1 := by
      show mx (a i * q.1) (a i * q.2) = a i * if 0 < a i then q.2 else q.1
      unfold mx
      by_cases hp : 0 < a i
      · rw [if_pos hp]
        have := Int.mul_le_mul_of_nonneg_left hq (Int.le_of_lt hp)
        split <;> omega
      · rw [if_neg hp]
        have := Int.mul_le_mul_of_nonpos_left (show a i ≤ 0 by omega) hq
        split <;> omega
    rw [e3]
    omega
theorem box_wF {t : Nat → Int} (h : ∀ q ∈ bs, q.1 ≤ q.2) (hl : bs.length = n) : dot t (endN bs t) n = wF t bs 0 0 := by
  rw [wF_dot t bs 0 0 h, hl, Int.zero_add]
  exact (dot_congr fun j _ => by rw [Nat.zero_add]).trans (dot_congr_r fun j _ => by
    unfold endN sdV
    rw [Nat.zero_add]
    rfl)
end
end Lp

/-! The D-layer, part 59: boxes and what comes behind a turn, as the laws reckon. -/
namespace Dl
open PySem PySem.Spec
open PyProof.Rows L2
/-! ### the lesser of two, the greatest of a list -/
/-! ### the most of numbers in a box -/
/-! ### hulls -/
/-! ### what comes behind a turn -/
def upd (g : Int → Int → Int) (o : Option Int) (v : Int) : Option Int := some (match o with | none => v | some h => g h v)
end Dl

/-! The D-layer, part 60: a list of one's own, an item taken out. -/
namespace Dl
open PySem PySem.Spec
open PyProof.Rows L2
section
variable {X : Cx} {W : WX} {e : Expr} {t : TD} {pos : Pos}
end
end Dl

/-! The D-layer, part 61: how far what most tells can lie, where only bounds are great. -/
namespace Dl
open PySem PySem.Spec
open PyProof.Rows L2
theorem red_bndm {b w m : Nat} {R : Mat} (h : ∀ i, i < m → ∀ j, bnd b (R i j)) : ∀ c i, i < m → ∀ j, bnd (eb b (redG w m R c).2.length) ((redG w m R c).1 i j)
  | 0, i, hi, j => lowR_bnd (h i hi) j
  | c + 1, i, hi, j => by
    have ih := red_bndm (w := w) (m := m) h c
    unfold redG stepG
    split
    · exact ih i hi j
    · rename_i k hk
      obtain ⟨k1, k2, _⟩ := fwN_some hk
      have am : (redG w m R c).2.length < m := by omega
      have km : k < m := by omega
      have sw : ∀ i, i < m → ∀ j, bnd (eb b (redG w m R c).2.length) (swR (redG w m R c).1 (redG w m R c).2.length k i j) := fun i hi j => by
        unfold swR
        split
        · exact ih _ am j
        · split
          · exact ih _ km j
          · exact ih _ hi j
      rw [List.length_append, List.length_singleton]
      show bnd (2 * eb b (redG w m R c).2.length + 1) (elR w m (swR (redG w m R c).1 (redG w m R c).2.length k) (redG w m R c).2.length c i j)
      unfold elR
      split
      · exact crR_bnd (sw i hi) (sw _ am) j
      · exact bnd_mono (sw i hi j) (by omega)
def okWk (w : Nat) (xs : List (Int × Int)) : Prop := ∀ x ∈ xs, 0 < x.2 ∧ bnd w x.1
theorem sol_small {m c b : Nat} {T : Mat} {xs : List (Int × Int)} {r : Nat} (hb : ∀ i, i < m → ∀ j, bnd b (T i j)) (h : solN m c T = some (xs, r)) : okWk (eb b m) (xs.map frX) := by
  unfold solN at h
  by_cases hbad : badG m c (redG (c + 1) m T c).1 (redG (c + 1) m T c).2.length = true
  · rw [if_pos hbad] at h
    cases h
  · rw [if_neg hbad] at h
    cases h
    intro x hx
    obtain ⟨p, hp, rfl⟩ := List.mem_map.mp hx
    obtain ⟨q, hq, rfl⟩ := List.mem_map.mp hp
    have e : Ech (c + 1) m c T (redG (c + 1) m T c).1 (redG (c + 1) m T c).2 := red_ech (Nat.le_succ c)
    have rb : ∀ i, i < m → ∀ j, bnd (eb b m) ((redG (c + 1) m T c).1 i j) := fun i hi j => bnd_mono (red_bndm hb c i hi j) (eb_mono e.len)
    have ok : (xG (redG (c + 1) m T c).1 c (redG (c + 1) m T c).2 q).2 ≠ 0 ∧ bnd (eb b m) (xG (redG (c + 1) m T c).1 c (redG (c + 1) m T c).2 q).1 := by
      unfold xG
      by_cases h : q ∈ (redG (c + 1) m T c).2
      · rw [if_pos h]
        obtain ⟨i, hi⟩ := List.getElem?_of_mem h
        rw [idx_of (inc_nodup e.inc) hi]
        have im : i < m := by
          have := (List.getElem?_eq_some_iff.mp hi).1
          have := e.len
          omega
        exact ⟨(e.piv i q hi).1, rb _ im _⟩
      · rw [if_neg h]
        exact ⟨(by decide : (1 : Int) ≠ 0), bnd_zero⟩
    have f := frX_ok ok.1
    exact ⟨f.1, bnd_le f.2.2.2.1 ok.2⟩
theorem wO_pos : ∀ (xs : List (Int × Int)) (o : Int), (∀ x ∈ xs, 0 < x.2) → 0 < o → 0 < wO xs o
  | [], o, _, ho => ho
  | p :: ps, o, h, ho => by
    unfold wO
    exact wO_pos ps _ (fun x hx => h x (List.mem_cons_of_mem _ hx)) (lcm_step ho (h p List.mem_cons_self)).1
theorem wN_small {w : Nat} {xs : List (Int × Int)} {P : List Nat} {o : Int} (h : okWk w xs) (ho : 0 < o) (q : Nat) : (wN xs P o q).natAbs ≤ 2 ^ w * o.natAbs := by
  unfold wN
  split
  · rw [List.getD_eq_getElem?_getD]
    cases hx : xs[P.idxOf q]? with
    | none =>
      show ((0 : Int) * _).natAbs ≤ _
      rw [Int.zero_mul]
      exact Nat.zero_le _
    | some x =>
      obtain ⟨x1, x2⟩ := h x (List.mem_of_getElem? hx)
      show (x.1 * o.fdiv x.2).natAbs ≤ _
      rw [Int.natAbs_mul]
      exact Nat.mul_le_mul (Nat.le_of_lt x2) (fdiv_le (show 1 ≤ x.2 by omega))
  · exact Nat.zero_le _
theorem sh_small {n b : Nat} {R : Mat} {P : List Nat} {t : Nat → Int} {s : Int × (Nat → Int)} (hR : ∀ i j, j < n → bnd b (R i j)) (ht : ∀ j, j < n → bnd b (t j)) (h : shN n R P t = some s) : 0 < s.1 ∧ ∀ q, (s.2 q).natAbs ≤ 2 ^ eb b n * s.1.natAbs := by
  unfold shN at h
  cases hs : solN n P.length (tM' R P t) with
  | none => rw [hs] at h; cases h
  | some z =>
    obtain ⟨xs, r⟩ := z
    have x2 := sol_small (m := n) (c := P.length) (b := b) (T := tM' R P t) (fun i hi j => by
      unfold tM'
      split
      · exact hR _ _ hi
      · exact ht _ hi) hs
    rw [hs] at h
    have h : (if r < P.length then none else if xs.any (fun x => decide ((frX x).1 < 0)) = true then none else some (wO (xs.map frX) 1, wN (xs.map frX) P (wO (xs.map frX) 1))) = some s := h
    split at h
    · cases h
    · split at h
      · cases h
      · cases h
        have o := wO_pos (xs.map frX) 1 (fun x hx => (x2 x hx).1) (by decide)
        exact ⟨o, fun q => wN_small x2 o q⟩
theorem lsF_from {m n : Nat} {R : Mat} {t : Nat → Int} : ∀ (Ps : List (List Nat)) (best : Option (Int × (Nat → Int))) (s : Int × (Nat → Int)), lsF m n R t best Ps = some s → best = some s ∨ ∃ P, shN n R P t = some s
  | [], best, s, h => .inl h
  | P :: Ps, best, s, h => by
    unfold lsF at h
    cases hP : shN n R P t with
    | none =>
      rw [hP] at h
      exact lsF_from Ps best s h
    | some c =>
      rw [hP] at h
      dsimp only at h
      cases best with
      | none =>
        rcases lsF_from Ps _ s h with e | e
        · cases e; exact .inr ⟨P, hP⟩
        · exact .inr e
      | some d =>
        dsimp only at h
        split at h
        · rcases lsF_from Ps _ s h with e | e
          · cases e; exact .inr ⟨P, hP⟩
          · exact .inr e
        · exact lsF_from Ps _ s h
theorem dot_small {A B : Nat} {r y : Nat → Int} (hr : ∀ i, (r i).natAbs ≤ A) (hy : ∀ i, (y i).natAbs ≤ B) : ∀ m, (dot r y m).natAbs ≤ m * (A * B)
  | 0 => Nat.zero_le _
  | m + 1 => by
    unfold dot
    have ih := dot_small hr hy m
    have p : (r m * y m).natAbs ≤ A * B := by rw [Int.natAbs_mul]; exact Nat.mul_le_mul (hr m) (hy m)
    rw [Nat.add_mul, Nat.one_mul]
    omega
theorem mo_small {m n b B : Nat} {R : Mat} {t : Nat → Int} {v : Int × Int} (m14 : m ≤ 16) (hR : ∀ i j, j < n → bnd b (R i j)) (hB : ∀ i, bnd B (R i n)) (ht : ∀ j, j < n → bnd b (t j)) (h : moV m n R t = .inr v) :
    0 < v.2 ∧ v.1.natAbs ≤ 2 ^ (B + eb b n + 4) * v.2.natAbs := by
  unfold moV at h
  cases he : emN m n R with
  | some N => rw [he] at h; cases h
  | none =>
    rw [he] at h
    dsimp only at h
    cases hs : lsN m n R t with
    | none => rw [hs] at h; cases h
    | some s =>
      rw [hs] at h
      cases h
      rcases lsF_from (choN n m) none s hs with e | ⟨P, hP⟩
      · cases e
      obtain ⟨s1, s2⟩ := sh_small hR ht hP
      have d := dot_small (r := fun i => R i n) (y := s.2) (fun i => Nat.le_of_lt (hB i)) s2 m
      have c := Lp.ls_cross (m := m) (n := n) (R := R) s1
      have pos : 0 < (lsV m n R s).2 := (frX_ok (p := (dot (fun i => R i n) s.2 m, s.1)) (show s.1 ≠ 0 by omega)).1
      refine ⟨pos, ?_⟩
      have c2 := congrArg Int.natAbs c
      rw [Int.natAbs_mul, Int.natAbs_mul] at c2
      have s3 : 0 < s.1.natAbs := by omega
      refine Nat.le_of_mul_le_mul_left (?_ : s.1.natAbs * (lsV m n R s).1.natAbs ≤ s.1.natAbs * (2 ^ (B + eb b n + 4) * (lsV m n R s).2.natAbs)) s3
      rw [← c2]
      have e : m * (2 ^ B * (2 ^ eb b n * s.1.natAbs)) ≤ 2 ^ (B + eb b n + 4) * s.1.natAbs := by
        rw [Nat.pow_add, Nat.pow_add, show 2 ^ 4 = 16 from rfl]
        have : m * (2 ^ B * (2 ^ eb b n * s.1.natAbs)) = 2 ^ B * 2 ^ eb b n * m * s.1.natAbs := by ac_rfl
        rw [this]
        exact Nat.mul_le_mul (Nat.mul_le_mul (Nat.le_refl _) m14) (Nat.le_refl _)
      refine Nat.le_trans (Nat.mul_le_mul (Nat.le_trans d e) (Nat.le_refl _)) (Nat.le_of_eq ?_)
      ac_rfl
/-- the least whole number not below lies no farther -/
theorem cl_small {p : Int × Int} {B : Nat} (h : 0 < p.2) (hb : p.1.natAbs ≤ B * p.2.natAbs) : (cl p).natAbs ≤ B := by
  have hB : ((B : Int)) * p.2 = ((B * p.2.natAbs : Nat) : Int) := by
    rw [Int.natCast_mul, Int.natAbs_of_nonneg (by omega)]
  rw [show cl p = 0 - (0 - p.1).fdiv p.2 from rfl, Int.fdiv_eq_ediv_of_nonneg _ (by omega)]
  have lo : -(B : Int) ≤ (0 - p.1) / p.2 := by
    refine (Int.le_ediv_iff_mul_le h).mpr ?_
    rw [Int.neg_mul, hB]
    omega
  have hi : (0 - p.1) / p.2 < (B : Int) + 1 := by
    refine (Int.ediv_lt_iff_lt_mul h).mpr ?_
    rw [Int.add_mul, hB]
    omega
  omega
end Dl

/-! The D-layer, part 62: modes and things drawn, the rows of the modes small; how far rooms grow. -/
namespace Dl
open PySem PySem.Spec
open PyProof.Rows L2
def lowM (n : Nat) (m : Md) : Prop := ∀ r ∈ m.rows, ∀ j, j < n → bnd 1 (r j)
end Dl

/-! The D-layer, part 63: how far rooms grow, where only bounds are great. -/
namespace Dl
open PySem PySem.Spec
open PyProof.Rows L2
/-- rows whose numbers are small, their bounds below 2^B -/
def smR (n B : Nat) (rs : List (Nat → Int)) : Prop := ∀ r ∈ rs, (∀ j, j < n → bnd 7 (r j)) ∧ ∀ j, bnd B (r j)
theorem smR_lo {n B : Nat} {rs : List (Nat → Int)} (h : smR n B rs) (i j : Nat) (hj : j < n) : bnd 7 (roomR rs i j) := by
  unfold roomR
  rw [List.getD_eq_getElem?_getD]
  cases hr : rs[i]? with
  | none => exact bnd_zero
  | some r => exact (h r (List.mem_of_getElem? hr)).1 j hj
theorem smR_all {n B : Nat} {rs : List (Nat → Int)} (h : smR n B rs) (i j : Nat) : bnd B (roomR rs i j) := by
  unfold roomR
  rw [List.getD_eq_getElem?_getD]
  cases hr : rs[i]? with
  | none => exact bnd_zero
  | some r => exact (h r (List.mem_of_getElem? hr)).2 j
theorem bnd_le2 {k : Nat} {z : Int} (h : z.natAbs ≤ 2 ^ k) : bnd (k + 1) z := by
  unfold bnd
  rw [Nat.pow_succ]
  have := Nat.two_pow_pos k
  omega
theorem eb7 {n : Nat} (h : n ≤ 2) : eb 7 n ≤ 31 := by
  match n, h with
  | 0, _ => decide
  | 1, _ => decide
  | 2, _ => decide
section
variable {n B : Nat} {ps : List (Int × Int)} {m : Md} {ms : List Md} {rs : List (Nat → Int)} {t : Nat → Int} {z : Int}
theorem mo_val {R : Mat} {k : Nat} {v : Int × Int} (n2 : n ≤ 2) (k16 : k ≤ 16) (hR : ∀ i j, j < n → bnd 7 (R i j)) (hB : ∀ i j, bnd B (R i j)) (ht : ∀ j, j < n → bnd 7 (t j)) (h : moV k n R t = .inr v) : 0 < v.2 ∧ v.1.natAbs ≤ 2 ^ (B + 35) * v.2.natAbs := by
  obtain ⟨p, q⟩ := mo_small k16 hR (fun i => hB i n) ht h
  refine ⟨p, Nat.le_trans q (Nat.mul_le_mul (Nat.pow_le_pow_right (by decide) ?_) (Nat.le_refl _))⟩
  have := eb7 n2
  omega
theorem ahead_bnd (n2 : n ≤ 2) (sm : okSM m) (bt : ∀ j, bnd 2 (t j)) (j : Nat) : bnd 7 (aheadT n m t j) := by
  unfold aheadT
  split
  · exact bnd_mono (dot_bnd (A := 2) (B := 3) (fun j _ => bt j) fun i _ => sm.nexts i j) (by omega)
  · exact bnd_zero
theorem more_bnd (n2 : n ≤ 2) (sm : okSM m) (pl : ps.length ≤ 2) (pb : ∀ q ∈ ps, bnd 103 q.1 ∧ bnd 103 q.2) (bt : ∀ j, bnd 2 (t j)) : bnd 112 (moreN n ps m t) := by
  have p : ∀ j, bnd 6 (pushT n m t j) := fun j => bnd_mono (dot_bnd (A := 2) (B := 2) (fun j _ => bt j) fun i _ => sm.push i j) (by omega)
  have w := wF_bnd (A := 6) (B := 103) p ps 0 0 0 pb bnd_zero
  have d := dot_bnd (A := 2) (B := 103) (n := n) (r := t) (y := m.add) (fun j _ => bt j) fun i _ => sm.add i
  unfold moreN
  exact bnd_addM (j := 111) (k := 107) (bnd_mono w (by omega)) (bnd_mono d (by omega))
theorem bb_small (n2 : n ≤ 2) (B1 : 104 ≤ B) (sm : okSM m) (pl : ps.length ≤ 2) (pb : ∀ q ∈ ps, bnd 103 q.1 ∧ bnd 103 q.2) (h : smR n B (rs ++ m.rows)) (len : (rs ++ m.rows).length ≤ 16) (bt : ∀ j, bnd 2 (t j)) (hz : bbN n ps m rs t = .inr z) : bnd (B + 37) z := by
  unfold bbN at hz
  cases hv : moV (rs ++ m.rows).length n (roomR (rs ++ m.rows)) (aheadT n m t) with
  | inl e => rw [hv] at hz; cases hz
  | inr v =>
    rw [hv] at hz
    cases hz
    obtain ⟨p, q⟩ := mo_val n2 len (smR_lo h) (smR_all h) (fun j _ => ahead_bnd n2 sm bt j) hv
    have mb := more_bnd n2 sm pl pb bt
    have dv := sm.div
    have p2 : 0 < v.2 * m.div := Int.mul_pos p (by omega)
    refine bnd_le2 (k := B + 36) (cl_small p2 ?_)
    have m1 : (moreN n ps m t).natAbs ≤ 2 ^ (B + 35) := Nat.le_of_lt (Nat.lt_of_lt_of_le mb (Nat.pow_le_pow_right (by decide) (by omega)))
    show (v.1 + moreN n ps m t * v.2).natAbs ≤ 2 ^ (B + 36) * (v.2 * m.div).natAbs
    have a1 : (v.1 + moreN n ps m t * v.2).natAbs ≤ 2 ^ (B + 35) * v.2.natAbs + 2 ^ (B + 35) * v.2.natAbs := by
      have : (moreN n ps m t * v.2).natAbs ≤ 2 ^ (B + 35) * v.2.natAbs := by rw [Int.natAbs_mul]; exact Nat.mul_le_mul m1 (Nat.le_refl _)
      have := Int.natAbs_add_le v.1 (moreN n ps m t * v.2)
      omega
    have a2 : 2 ^ (B + 36) = 2 ^ (B + 35) * 2 := Nat.pow_succ ..
    rw [Int.natAbs_mul, a2]
    have d1 : 1 ≤ m.div.natAbs := by omega
    have a3 : 2 ^ (B + 35) * 2 * v.2.natAbs ≤ 2 ^ (B + 35) * 2 * (v.2.natAbs * m.div.natAbs) := Nat.mul_le_mul (Nat.le_refl _) (Nat.le_mul_of_pos_right _ d1)
    have a4 : 2 ^ (B + 35) * 2 * v.2.natAbs = 2 ^ (B + 35) * v.2.natAbs + 2 ^ (B + 35) * v.2.natAbs := by
      rw [Nat.mul_assoc, Nat.mul_comm 2, ← Nat.mul_assoc]
      omega
    omega
/-- a room by a shape of small numbers -/
structure okRl (n B : Nat) (rl : List Rp) : Prop where
  len : rl.length ≤ 7
  lo : ∀ r ∈ rl, ∀ j, bnd 2 (r.1 j)
  hi : ∀ r ∈ rl, bnd B r.2
structure okMs (n : Nat) (ps : List (Int × Int)) (ms : List Md) : Prop where
  n1 : 1 ≤ n
  n2 : n ≤ 2
  pl : ps.length ≤ 2
  pb : ∀ q ∈ ps, bnd 103 q.1 ∧ bnd 103 q.2
  md : ∀ m ∈ ms, okSM m ∧ lowM n m ∧ m.rows.length ≤ 1
theorem okRl.sm {rl : List Rp} (o : okRl n B rl) (h : okMs n ps ms) (B1 : 104 ≤ B) (hm : m ∈ ms) : smR n B (rowsT n rl ++ m.rows) := fun r hr => by
  obtain ⟨sm, lm, ml⟩ := h.md m hm
  rcases List.mem_append.mp hr with hr | hr
  · obtain ⟨p, hp, rfl⟩ := List.mem_map.mp hr
    refine ⟨fun j hj => ?_, fun j => ?_⟩
    · rw [extT_lt hj]
      exact bnd_mono (o.lo p hp j) (by decide)
    · unfold extT
      split
      · exact o.hi p hp
      · exact bnd_mono (o.lo p hp j) (by omega)
  · exact ⟨fun j hj => bnd_mono (lm r hr j hj) (by decide), fun j => bnd_mono (sm.rows r hr j) (by omega)⟩
theorem okRl.ln {rl : List Rp} (o : okRl n B rl) (h : okMs n ps ms) (hm : m ∈ ms) : (rowsT n rl ++ m.rows).length ≤ 8 := by
  have := (h.md m hm).2.2
  have := o.len
  rw [List.length_append, List.length_map]
  omega
theorem gb_small {rl : List Rp} (o : okRl n B rl) (h : okMs n ps ms) (B1 : 104 ≤ B) (bt : ∀ j, bnd 2 (t j)) : ∀ (ml : List Md) (b y : Int), (∀ m ∈ ml, m ∈ ms) → bnd (B + 37) b → gbN n ps (rowsT n rl) t ml b = some y → bnd (B + 37) y
  | [], b, y, _, hb, e => by cases e; exact hb
  | m :: ml, b, y, hm, hb, e => by
    unfold gbN at e
    have mm := hm m List.mem_cons_self
    have tl : ∀ x ∈ ml, x ∈ ms := fun x hx => hm x (List.mem_cons_of_mem _ hx)
    cases hbb : bbN n ps m (rowsT n rl) t with
    | inl c =>
      rw [hbb] at e
      cases c with
      | false => cases e
      | true => exact gb_small o h B1 bt ml b y tl hb e
    | inr z =>
      rw [hbb] at e
      have bz := bb_small h.n2 B1 (h.md m mm).1 h.pl h.pb (o.sm h B1 mm) (Nat.le_trans (o.ln h mm) (by decide)) bt hbb
      refine gb_small o h B1 bt ml _ y tl ?_ e
      unfold mx
      split
      · exact bz
      · exact hb
theorem gw_small {rl : List Rp} (o : okRl n B rl) (h : okMs n ps ms) (B1 : 104 ≤ B) : ∀ (l y : List Rp), (∀ r ∈ l, r ∈ rl) → gwF n ps ms (rowsT n rl) l = some y → y.length = l.length ∧ (∀ r ∈ y, ∀ j, bnd 2 (r.1 j)) ∧ ∀ r ∈ y, bnd (B + 37) r.2
  | [], y, _, e => by cases e; exact ⟨rfl, (fun r hr => nomatch hr), fun r hr => nomatch hr⟩
  | r :: l, y, hl, e => by
    unfold gwF at e
    have rm := hl r List.mem_cons_self
    cases hg : gbN n ps (rowsT n rl) r.1 ms r.2 with
    | none => rw [hg] at e; cases e
    | some b =>
      rw [hg] at e
      obtain ⟨y2, hy2, rfl⟩ := Option.map_eq_some_iff.mp e
      obtain ⟨i1, i2, i3⟩ := gw_small o h B1 l y2 (fun x hx => hl x (List.mem_cons_of_mem _ hx)) hy2
      have bb := gb_small o h B1 (o.lo r rm) ms r.2 b (fun m hm => hm) (bnd_mono (o.hi r rm) (by omega)) hg
      refine ⟨by rw [List.length_cons, List.length_cons, i1], fun x hx => ?_, fun x hx => ?_⟩
      · rcases List.mem_cons.mp hx with rfl | hx
        · exact o.lo r rm
        · exact i2 x hx
      · rcases List.mem_cons.mp hx with rfl | hx
        · exact bb
        · exact i3 x hx
theorem okRl.step {rl y : List Rp} (o : okRl n B rl) (h : okMs n ps ms) (B1 : 104 ≤ B) (e : gwN n ps ms rl = some y) : okRl n (B + 37) y := by
  obtain ⟨i1, i2, i3⟩ := gw_small o h B1 rl y (fun r hr => hr) e
  exact ⟨by rw [i1]; exact o.len, i2, i3⟩
theorem okRl.bb {bb : Nat} {rl : List Rp} (o : okRl n B rl) (h : okMs n ps ms) (B1 : 104 ≤ B) (hB : B ≤ bb) (he : eb bb n ≤ 1300) : ∀ m ∈ ms, ∀ r ∈ rl, okBb n bb ps m (rowsT n rl) r.1 := fun m hm r hr => by
  obtain ⟨sm, lm, ml⟩ := h.md m hm
  have pl := h.pl
  have dv := sm.div
  have n2 := h.n2
  have ln := o.ln h hm
  refine ⟨⟨h.n1, by omega, by omega, by omega, fun x hx j => bnd_mono ((o.sm h B1 hm x hx).2 j) hB, he⟩, by omega, fun q hq => ⟨bnd_mono (h.pb q hq).1 (by decide), bnd_mono (h.pb q hq).2 (by decide)⟩, ⟨fun i j => bnd_mono (sm.nexts i j) (by decide), fun i j => bnd_mono (sm.push i j) (by decide), fun i => bnd_mono (sm.add i) (by decide), bnd_of (by omega) (Int.lt_of_lt_of_le (show m.div < 2 ^ 8 by omega) (by decide +kernel))⟩, by omega, fun j => bnd_mono (o.lo r hr j) (by decide), fun j => bnd_mono (ahead_bnd n2 sm (o.lo r hr) j) (by omega)⟩
end
end Dl

/-! The D-layer, part 64: a word in a list of words and ints; the rows of a box. -/
namespace Dl
open PySem PySem.Spec
open PyProof.Rows L2
def wdD : D → Bool
  | .int _ => true
  | .str _ => true
  | _ => false
def eqW (s : Str) : D → Bool
  | .str t => t == s
  | _ => false
/-- a word in a list of words and ints -/
def kIn : KD := fun x y Q => match x, y with
  | .str s, .lst ds => ds.all wdD = true ∧ Q (.bl (ds.any (eqW s)))
  | _, _ => False
/-! ### the rows of a box -/
end Dl

/-! The D-layer, part 65: points and rows, as the laws of grown rooms reckon them. -/
namespace Dl
open PySem PySem.Spec
open PyProof.Rows L2
/-- a row's numbers along a point, brought low at each step -/
def alK (r : Nat → Int) (x : Nat → Int × Int) : Nat → Int × Int
  | 0 => (0, 1)
  | k + 1 => frX ((alK r x k).1 * (x k).2 + r k * (x k).1 * (alK r x k).2, (alK r x k).2 * (x k).2)
def hldK (n : Nat) (r : Nat → Int) (x : Nat → Int × Int) : Bool := decide ((alK r x n).1 ≤ r n * (alK r x n).2)
end Dl

/-! The D-layer, part 66: points drawn in a box. -/
namespace Dl
open PySem PySem.Spec
open PyProof.Rows L2
/-- a point in a box, its bottoms small -/
def okPt (bs : List (Int × Int)) (x : Nat → Int × Int) : Prop := ∀ k q, bs[k]? = some q → 0 < (x k).2 ∧ (x k).2 ≤ 4 ∧ q.1 * (x k).2 ≤ (x k).1 ∧ (x k).1 ≤ q.2 * (x k).2
end Dl

/-! The D-layer, part 67: a point behind a turn. -/
namespace Dl
open PySem PySem.Spec
open PyProof.Rows L2
def plK (p q : Int × Int) : Int × Int := frX (p.1 * q.2 + q.1 * p.2, p.2 * q.2)
def twoR (a b : Int) : Nat → Int := fun i => if i = 0 then a else b
def twoX : Nat → Int × Int := fun i => if i = 0 then (0, 1) else (1, 1)
def bhS (n p : Nat) (m : Md) (x w : Nat → Int × Int) (j : Nat) : Int × Int := plK (plK (alK (m.nexts j) x n) (alK (m.push j) w p)) (alK (twoR (m.steer j) (m.add j)) twoX 2)
def bhK (n p : Nat) (m : Md) (x w : Nat → Int × Int) (j : Nat) : Int × Int := frX ((bhS n p m x w j).1, (bhS n p m x w j).2 * m.div)
end Dl

/-! Linear inequalities, part 17: points as the laws of grown rooms reckon them. -/
namespace Lp
open Dl
def xQ (x : Nat → Int × Int) : V := fun k => qv (x k)
theorem pl_q {p q : Int × Int} (hp : 0 < p.2) (hq : 0 < q.2) : qv (plK p q) = qv p + qv q := by
  have z := Int.mul_pos hp hq
  unfold plK
  rw [frX_q (show p.2 * q.2 ≠ 0 by omega)]
  unfold qv
  dsimp only
  rw [Rat.intCast_add, Rat.intCast_mul, Rat.intCast_mul, Rat.intCast_mul]
  have a := ne_q (show p.2 ≠ 0 by omega)
  have b := ne_q (show q.2 ≠ 0 by omega)
  grind
theorem al_q {B n : Nat} {r : Nat → Int} {x : Nat → Int × Int} (hx : okX B n x) : ∀ k, k ≤ n → 0 < (alK r x k).2 ∧ qv (alK r x k) = qd (rq r) (xQ x) k
  | 0, _ => ⟨Int.one_pos, by
    show qv (0, 1) = 0
    unfold qv
    show ((0 : Int) : Rat) / ((1 : Int) : Rat) = 0
    rw [show ((0 : Int) : Rat) = 0 from rfl]
    grind⟩
  | k + 1, hk => by
    obtain ⟨i1, i2⟩ := al_q (r := r) hx k (by omega)
    obtain ⟨x0, _, _⟩ := hx k (by omega)
    have e : alK r x (k + 1) = plK (alK r x k) (r k * (x k).1, (x k).2) := rfl
    have w := pl_q (p := alK r x k) (q := (r k * (x k).1, (x k).2)) i1 x0
    rw [e, w, i2]
    refine ⟨?_, ?_⟩
    · unfold plK
      have z := Int.mul_pos i1 x0
      exact (frX_ok (p := _) (show (alK r x k).2 * (x k).2 ≠ 0 by omega)).1
    · show _ = qd (rq r) (xQ x) k + rq r k * xQ x k
      unfold xQ rq qv
      dsimp only
      rw [Rat.intCast_mul]
      have b := ne_q (show (x k).2 ≠ 0 by omega)
      grind
/-- what a law's test of a row says -/
theorem hld_q {B n : Nat} {r : Nat → Int} {x : Nat → Int × Int} (hx : okX B n x) : hldK n r x = true ↔ qd (rq r) (xQ x) n ≤ (r n : Rat) := by
  obtain ⟨a1, a2⟩ := al_q (r := r) hx n (Nat.le_refl _)
  unfold hldK
  rw [decide_eq_true_iff, ← a2]
  unfold qv
  have p := pos_q a1
  have n0 := ne_q (show (alK r x n).2 ≠ 0 by omega)
  have e : ((alK r x n).1 : Rat) / ((alK r x n).2 : Rat) * ((alK r x n).2 : Rat) = ((alK r x n).1 : Rat) := by grind
  constructor
  · intro h
    have h' : (((alK r x n).1 : Int) : Rat) ≤ (r n : Rat) * ((alK r x n).2 : Rat) := by rw [← Rat.intCast_mul]; exact Rat.intCast_le_intCast.mpr h
    rw [← e] at h'
    exact Rat.le_of_mul_le_mul_right h' p
  · intro h
    have h' := Rat.mul_le_mul_of_nonneg_right h (Rat.le_of_lt p)
    rw [e, ← Rat.intCast_mul] at h'
    exact Rat.intCast_le_intCast.mp h'
end Lp

/-! Linear inequalities, part 18: a point that stays in a room, turn by turn. -/
namespace Lp
open Dl
section
variable {n b p : Nat} {ps : List (Int × Int)} {m : Md} {rs : List (Nat → Int)} {t : Nat → Int} {x w : V}
theorem wF_ge (hp : ∀ q ∈ ps, q.1 ≤ q.2) (hw : inB ps.length ps w) (a : Nat → Int) : qd (rq a) w ps.length ≤ ((wF a ps 0 0 : Int) : Rat) := by
  have := end_top (t := a) hw ps.length (Nat.le_refl _)
  rw [qd_int, box_wF hp rfl] at this
  exact this
theorem cl_ge {p : Int × Int} (h : 0 < p.2) : qv p ≤ (cl p : Rat) := by
  refine (le_q h).mp ?_
  show p.1 ≤ (0 - (0 - p.1).fdiv p.2) * p.2
  rw [Int.fdiv_eq_ediv_of_nonneg _ (Int.le_of_lt h), Int.sub_mul]
  have := Int.ediv_mul_le (0 - p.1) (show p.2 ≠ 0 by omega)
  omega
/-- what a row comes to behind a turn, over the divisor -/
def turnQ (n p : Nat) (m : Md) (t : Nat → Int) (x w : V) : Rat := qd (rq (aheadT n m t)) x n + qd (rq (pushT n m t)) w p + ((dot t m.add n : Int) : Rat)
theorem bb_up (ok : okBb n b ps m rs t) (hp : ∀ q ∈ ps, q.1 ≤ q.2) (hx : (sysOf (rs ++ m.rows).length n (roomR (rs ++ m.rows))).feas x) (hw : inB ps.length ps w) :
    bbN n ps m rs t ≠ .inl true ∧ ∀ z, bbN n ps m rs t = .inr z → turnQ n ps.length m t x w ≤ (m.div : Rat) * (z : Rat) := by
  have rm := ok.rs.rm
  have he : emN (rs ++ m.rows).length n (roomR (rs ++ m.rows)) = none := by
    cases he : emN (rs ++ m.rows).length n (roomR (rs ++ m.rows)) with
    | none => rfl
    | some N => exact absurd hx (((em_spec rm).1 N he).no _)
  unfold bbN moV
  rw [he]
  dsimp only
  cases hs : lsN (rs ++ m.rows).length n (roomR (rs ++ m.rows)) (aheadT n m t) with
  | none => exact ⟨(fun z => by cases z), fun z h => by cases h⟩
  | some s =>
    refine ⟨(fun z => by cases z), fun z h => ?_⟩
    cases h
    obtain ⟨cs, css, _, mo⟩ := most_some rm ok.ba he hs
    have h2 := mo.sh.for_.bound hx
    rw [yS_cost mo.sh.pos] at h2
    have h2 : qd (rq (aheadT n m t)) x n ≤ qv (lsV (rs ++ m.rows).length n (roomR (rs ++ m.rows)) s) := h2
    obtain ⟨fv, _⟩ := ls_okF rm mo.ks
    have v0 := fv.1
    generalize lsV (rs ++ m.rows).length n (roomR (rs ++ m.rows)) s = v at h2 v0 ⊢
    have h3 := wF_ge hp hw (pushT n m t)
    have d0 := ok.dv
    have c := cl_ge (p := (v.1 + moreN n ps m t * v.2, v.2 * m.div)) (Int.mul_pos v0 (by omega))
    have dq := pos_q (show 0 < m.div by omega)
    have c2 := Rat.mul_le_mul_of_nonneg_left c (Rat.le_of_lt dq)
    have e : (m.div : Rat) * qv (v.1 + moreN n ps m t * v.2, v.2 * m.div) = qv v + ((moreN n ps m t : Int) : Rat) := by
      unfold qv
      dsimp only
      rw [Rat.intCast_add, Rat.intCast_mul, Rat.intCast_mul]
      have a := ne_q (show v.2 ≠ 0 by omega)
      have b := ne_q (show m.div ≠ 0 by omega)
      grind
    rw [e] at c2
    have e2 : ((moreN n ps m t : Int) : Rat) = ((wF (pushT n m t) ps 0 0 : Int) : Rat) + ((dot t m.add n : Int) : Rat) := by
      unfold moreN
      rw [Rat.intCast_add]
    rw [e2] at c2
    unfold turnQ
    grind
end
theorem pl_pos {p q : Int × Int} (hp : 0 < p.2) (hq : 0 < q.2) : 0 < (plK p q).2 := by
  have z := Int.mul_pos hp hq
  exact (frX_ok (p := (p.1 * q.2 + q.1 * p.2, p.2 * q.2)) (show p.2 * q.2 ≠ 0 by omega)).1
theorem two_ok : okX 1 2 twoX := fun i hi => by
  unfold twoX
  split
  · exact ⟨by decide, bnd_zero, bnd_one (by decide)⟩
  · exact ⟨by decide, bnd_one (by decide), bnd_one (by decide)⟩
section
variable {B n p : Nat} {m : Md} {x w : Nat → Int × Int}
theorem bh_q (ox : okX B n x) (ow : okX B p w) (st : m.steer = fun _ => 0) (dv : 1 ≤ m.div) (k : Nat) : 0 < (bhK n p m x w k).2 ∧ (m.div : Rat) * xQ (bhK n p m x w) k = qd (rq (m.nexts k)) (xQ x) n + qd (rq (m.push k)) (xQ w) p + (m.add k : Rat) := by
  obtain ⟨a0, a1⟩ := al_q (r := m.nexts k) ox n (Nat.le_refl _)
  obtain ⟨b0, b1⟩ := al_q (r := m.push k) ow p (Nat.le_refl _)
  obtain ⟨c0, c1⟩ := al_q (r := twoR (m.steer k) (m.add k)) two_ok 2 (Nat.le_refl _)
  have d0 := pl_pos a0 b0
  have s0 : 0 < (bhS n p m x w k).2 := pl_pos d0 c0
  have sq : qv (bhS n p m x w k) = qd (rq (m.nexts k)) (xQ x) n + qd (rq (m.push k)) (xQ w) p + (m.add k : Rat) := by
    unfold bhS
    rw [pl_q d0 c0, pl_q a0 b0, a1, b1, c1]
    have e : qd (rq (twoR (m.steer k) (m.add k))) (xQ twoX) 2 = (m.add k : Rat) := by
      show 0 + rq (twoR (m.steer k) (m.add k)) 0 * xQ twoX 0 + rq (twoR (m.steer k) (m.add k)) 1 * xQ twoX 1 = _
      have e0 : xQ twoX 0 = 0 := zero_div1
      have e1 : xQ twoX 1 = 1 := by show ((1 : Int) : Rat) / ((1 : Int) : Rat) = 1; rw [show ((1 : Int) : Rat) = 1 from rfl]; grind
      have e2 : rq (twoR (m.steer k) (m.add k)) 1 = (m.add k : Rat) := rfl
      rw [e0, e1, e2]
      grind
    rw [e]
  have z := Int.mul_pos s0 (show 0 < m.div by omega)
  refine ⟨(frX_ok (p := ((bhS n p m x w k).1, (bhS n p m x w k).2 * m.div)) (show (bhS n p m x w k).2 * m.div ≠ 0 by omega)).1, ?_⟩
  rw [← sq]
  show (m.div : Rat) * qv (frX ((bhS n p m x w k).1, (bhS n p m x w k).2 * m.div)) = _
  rw [frX_q (show (bhS n p m x w k).2 * m.div ≠ 0 by omega)]
  unfold qv
  dsimp only
  rw [Rat.intCast_mul]
  have a := ne_q (show (bhS n p m x w k).2 ≠ 0 by omega)
  have b := ne_q (show m.div ≠ 0 by omega)
  grind
theorem turn_q (ox : okX B n x) (ow : okX B p w) (st : m.steer = fun _ => 0) (dv : 1 ≤ m.div) (t : Nat → Int) : (m.div : Rat) * qd (rq t) (xQ (bhK n p m x w)) n = turnQ n p m t (xQ x) (xQ w) := by
  rw [← qd_smul_r]
  have e : qd (rq t) (fun k => (m.div : Rat) * xQ (bhK n p m x w) k) n = qd (rq t) (fun k => (qd (rq (m.nexts k)) (xQ x) n + 1 * qd (rq (m.push k)) (xQ w) p) + 1 * (m.add k : Rat)) n :=
    qd_congr (fun _ _ => rfl) fun k _ => by rw [(bh_q ox ow st dv k).2]; grind
  rw [e, qd_lin_r, qd_lin_r]
  have s1 := at_turn ⟨0, 0, fun k => rq (m.nexts k), fun _ => 0⟩ (rq t) (xQ x) n n
  have s2 := at_turn ⟨0, 0, fun k => rq (m.push k), fun _ => 0⟩ (rq t) (xQ w) n p
  dsimp only at s1 s2
  have s3 : qd (rq t) (fun k => (m.add k : Rat)) n = ((dot t m.add n : Int) : Rat) := qd_int t m.add n
  rw [← s1, ← s2, s3]
  have t1 : qd (fun j => qd (rq t) (fun k => rq (m.nexts k) j) n) (xQ x) n = qd (rq (aheadT n m t)) (xQ x) n := qd_congr (fun j hj => by
    show qd (rq t) (rq fun i => m.nexts i j) n = ((aheadT n m t j : Int) : Rat)
    rw [qd_int]
    unfold aheadT
    rw [if_pos hj]) fun _ _ => rfl
  have t2 : qd (fun j => qd (rq t) (fun k => rq (m.push k) j) n) (xQ w) p = qd (rq (pushT n m t)) (xQ w) p := qd_congr (fun j hj => by
    show qd (rq t) (rq fun i => m.push i j) n = ((pushT n m t j : Int) : Rat)
    rw [qd_int]
    rfl) fun _ _ => rfl
  rw [t1, t2]
  unfold turnQ
  grind
end
section
variable {n b : Nat} {ps : List (Int × Int)} {ms : List Md} {rs : List (Nat → Int)}
theorem feas_rows {x : V} : (sysOf rs.length n (roomR rs)).feas x ↔ ∀ r ∈ rs, qd (rq r) x n ≤ (r n : Rat) := by
  have at_ : ∀ i (hi : i < rs.length), roomR rs i = rs[i] := fun i hi => by
    show rs.getD i _ = _
    rw [List.getD_eq_getElem?_getD, List.getElem?_eq_getElem hi]
    rfl
  constructor
  · intro f r hr
    obtain ⟨i, hi, rfl⟩ := List.getElem_of_mem hr
    have := f i hi
    have : qd (rq (roomR rs i)) x n ≤ (roomR rs i n : Rat) := this
    rw [at_ i hi] at this
    exact this
  · intro f i hi
    have hi : i < rs.length := hi
    show qd (rq (roomR rs i)) x n ≤ (roomR rs i n : Rat)
    rw [at_ i hi]
    exact f _ (List.getElem_mem hi)
theorem le_mx2 (i j : Int) : i ≤ mx i j ∧ j ≤ mx i j := by unfold mx; split <;> omega
theorem gb_le {t : Nat → Int} : ∀ (ml : List Md) (b y : Int), gbN n ps rs t ml b = some y → b ≤ y ∧ ∀ m ∈ ml, bbN n ps m rs t ≠ .inl false ∧ ∀ z, bbN n ps m rs t = .inr z → z ≤ y
  | [], b, y, h => by cases h; exact ⟨Int.le_refl _, fun m hm => nomatch hm⟩
  | m :: ml, b, y, h => by
    unfold gbN at h
    cases hb : bbN n ps m rs t with
    | inl e =>
      rw [hb] at h
      cases e with
      | false => cases h
      | true =>
        obtain ⟨i1, i2⟩ := gb_le ml b y h
        refine ⟨i1, fun m' hm => ?_⟩
        rcases List.mem_cons.mp hm with rfl | hm
        · rw [hb]
          exact ⟨(fun z => by cases z), fun z hz => by cases hz⟩
        · exact i2 m' hm
    | inr z =>
      rw [hb] at h
      obtain ⟨i1, i2⟩ := gb_le ml (mx b z) y h
      have l := le_mx2 b z
      refine ⟨by omega, fun m' hm => ?_⟩
      rcases List.mem_cons.mp hm with rfl | hm
      · rw [hb]
        refine ⟨(fun z => by cases z), fun z' hz => ?_⟩
        cases hz
        omega
      · exact i2 m' hm
theorem gw_fix : ∀ (rl z : List Rp), gwF n ps ms rs rl = some z → z.map Prod.snd = rl.map Prod.snd → ∀ r ∈ rl, gbN n ps rs r.1 ms r.2 = some r.2
  | [], z, _, _, r, hr => nomatch hr
  | r :: rl, z, h, e, r', hr => by
    unfold gwF at h
    cases hb : gbN n ps rs r.1 ms r.2 with
    | none => rw [hb] at h; cases h
    | some b =>
      rw [hb] at h
      obtain ⟨y, hy, rfl⟩ := Option.map_eq_some_iff.mp h
      rw [List.map_cons, List.map_cons] at e
      obtain ⟨e1, e2⟩ := List.cons.inj e
      have e1 : b = r.2 := e1
      rcases List.mem_cons.mp hr with rfl | hr
      · rw [hb, e1]
      · exact gw_fix rl y hy e2 r' hr
/-- a point that lies in a room -/
def inRl (n : Nat) (rl : List Rp) (x : V) : Prop := ∀ r ∈ rl, qd (rq r.1) x n ≤ (r.2 : Rat)
theorem inRl_rows {rl : List Rp} {x : V} (h : inRl n rl x) : ∀ r ∈ rowsT n rl, qd (rq r) x n ≤ (r n : Rat) := fun r hr => by
  obtain ⟨p, hp, rfl⟩ := List.mem_map.mp hr
  rw [extT_at, qd_congr (b := rq p.1) (y := x) (fun j hj => by unfold rq; rw [extT_lt hj]) fun _ _ => rfl]
  exact h p hp
/-- a point of a room that is kept stays in it -/
theorem stay {rl z : List Rp} {B : Nat} {m : Md} {x w : Nat → Int × Int} (ok : ∀ m ∈ ms, ∀ r ∈ rl, okBb n b ps m (rowsT n rl) r.1) (fix : gwN n ps ms rl = some z) (same : z.map Prod.snd = rl.map Prod.snd)
    (hm : m ∈ ms) (hp : ∀ q ∈ ps, q.1 ≤ q.2) (ox : okX B n x) (ow : okX B ps.length w) (hw : inB ps.length ps (xQ w)) (st : m.steer = fun _ => 0) (hx : inRl n rl (xQ x)) (hr : ∀ r ∈ m.rows, qd (rq r) (xQ x) n ≤ (r n : Rat)) : inRl n rl (xQ (bhK n ps.length m x w)) := fun r hrl => by
  have okb := ok m hm r hrl
  have f : (sysOf (rowsT n rl ++ m.rows).length n (roomR (rowsT n rl ++ m.rows))).feas (xQ x) := feas_rows.mpr fun r' h => by
    rcases List.mem_append.mp h with h | h
    · exact inRl_rows hx r' h
    · exact hr r' h
  obtain ⟨b1, b2⟩ := bb_up okb hp f hw
  obtain ⟨_, g⟩ := gb_le ms r.2 r.2 (gw_fix rl z fix same r hrl)
  obtain ⟨g1, g2⟩ := g m hm
  have dv := okb.dv
  have tq := turn_q ox ow st dv r.1
  have dq := pos_q (show 0 < m.div by omega)
  cases hb : bbN n ps m (rowsT n rl) r.1 with
  | inl e =>
    cases e with
    | true => exact absurd hb b1
    | false => exact absurd hb g1
  | inr y =>
    have h1 := b2 y hb
    have h2 := Rat.intCast_le_intCast.mpr (g2 y hb)
    rw [← tq] at h1
    have h3 := Rat.le_of_mul_le_mul_left h1 dq
    exact Rat.le_trans h3 h2
end
end Lp

/-! Linear inequalities, part 19: rooms by a shape over a box, rooms that are wider, points over one bottom. -/
namespace Lp
open Dl
section
variable {n b : Nat} {ps bs : List (Int × Int)} {ms : List Md}
/-- a room with the same numbers, no bound less -/
inductive Up : List Rp → List Rp → Prop
  | nil : Up [] []
  | cons {t : Nat → Int} {a c : Int} {l k : List Rp} : a ≤ c → Up l k → Up ((t, a) :: l) ((t, c) :: k)
theorem Up.refl : ∀ l, Up l l
  | [] => .nil
  | (_, _) :: l => .cons (Int.le_refl _) (Up.refl l)
theorem Up.trans {a c d : List Rp} (h : Up a c) (k : Up c d) : Up a d := by
  induction h generalizing d with
  | nil => exact k
  | cons h1 _ ih =>
    cases k with
    | cons k1 k2 => exact .cons (Int.le_trans h1 k1) (ih k2)
theorem Up.le {a c : List Rp} (h : Up a c) : ∀ (k : Nat) (x y : Rp), a[k]? = some x → c[k]? = some y → x.2 ≤ y.2 := by
  induction h with
  | nil => intro k x y hx; cases hx
  | cons h1 _ ih =>
    intro k x y hx hy
    cases k with
    | zero => cases hx; cases hy; exact h1
    | succ k => exact ih k x y hx hy
theorem Up.in {a c : List Rp} (h : Up a c) {x : V} (hx : inRl n a x) : inRl n c x := by
  induction h with
  | nil => exact fun r hr => nomatch hr
  | cons h1 _ ih =>
    intro r hr
    rcases List.mem_cons.mp hr with rfl | hr
    · have z := hx _ List.mem_cons_self
      have e := Rat.intCast_le_intCast.mpr h1
      exact Rat.le_trans z e
    · exact ih (fun r hr => hx r (List.mem_cons_of_mem _ hr)) r hr
end
/-! ### points over one bottom -/
theorem low_dvd {p : Int × Int} {a d : Int} (h : p.2 ≠ 0) (e : p.1 * d = a * p.2) : (frX p).2 ∣ d := by
  obtain ⟨f1, f2, f3, _, _⟩ := frX_ok h
  generalize frX p = f at *
  have k : f.1 * d = a * f.2 := Int.eq_of_mul_eq_mul_right h (by
    have : f.1 * d * p.2 = f.1 * p.2 * d := by ac_rfl
    rw [this, f2, Int.mul_assoc, Int.mul_comm f.2 d, ← Int.mul_assoc, e]
    ac_rfl)
  have g : Nat.Coprime f.2.natAbs f.1.natAbs := by
    show Nat.gcd _ _ = 1
    rw [Nat.gcd_comm]
    exact Int.ofNat.inj f3
  have dv : f.2 ∣ f.1 * d := ⟨a, by rw [k, Int.mul_comm]⟩
  have dv := Int.natAbs_dvd_natAbs.mpr dv
  rw [Int.natAbs_mul] at dv
  exact Int.natAbs_dvd_natAbs.mp (g.dvd_of_dvd_mul_left dv)
def far (V : Nat) (p : Int × Int) : Prop := p.1.natAbs ≤ V * p.2.natAbs
theorem far_low {V : Nat} {p : Int × Int} (h : p.2 ≠ 0) (f : far V p) : far V (frX p) := by
  obtain ⟨f1, f2, f3, _, _⟩ := frX_ok h
  unfold far at *
  generalize frX p = q at *
  have c := congrArg Int.natAbs f2
  rw [Int.natAbs_mul, Int.natAbs_mul] at c
  refine Nat.le_of_mul_le_mul_right (?_ : q.1.natAbs * p.2.natAbs ≤ V * q.2.natAbs * p.2.natAbs) (show 0 < p.2.natAbs by omega)
  rw [c, Nat.mul_right_comm]
  exact Nat.mul_le_mul_right _ f
theorem far_mono {V W : Nat} {p : Int × Int} (h : far V p) (k : V ≤ W) : far W p := Nat.le_trans h (Nat.mul_le_mul_right _ k)
theorem far_add {V W : Nat} {p q : Int × Int} (h : far V p) (k : far W q) : far (V + W) (p.1 * q.2 + q.1 * p.2, p.2 * q.2) := by
  unfold far at *
  dsimp only
  have a := Nat.mul_le_mul_right q.2.natAbs h
  have b := Nat.mul_le_mul_right p.2.natAbs k
  have c := Int.natAbs_add_le (p.1 * q.2) (q.1 * p.2)
  rw [Int.natAbs_mul, Int.natAbs_mul] at c
  rw [Int.natAbs_mul, Nat.add_mul]
  have e1 : V * (p.2.natAbs * q.2.natAbs) = V * p.2.natAbs * q.2.natAbs := by ac_rfl
  have e2 : W * (p.2.natAbs * q.2.natAbs) = W * q.2.natAbs * p.2.natAbs := by ac_rfl
  omega
theorem far_mul {V K : Nat} {r : Int} {p : Int × Int} (h : far V p) (k : r.natAbs ≤ K) : far (K * V) (r * p.1, p.2) := by
  unfold far at *
  dsimp only
  rw [Int.natAbs_mul, Nat.mul_assoc]
  exact Nat.mul_le_mul k h
/-- a fraction over a bottom, no farther than so -/
structure Ov (d : Int) (V : Nat) (p : Int × Int) : Prop where
  pos : 0 < p.2
  dv : p.2 ∣ d
  fr : far V p
theorem Ov.add {d : Int} {V W : Nat} {p q : Int × Int} (h : Ov d V p) (k : Ov d W q) : Ov d (V + W) (frX (p.1 * q.2 + q.1 * p.2, p.2 * q.2)) := by
  have z := Int.mul_pos h.pos k.pos
  have z0 : ((p.1 * q.2 + q.1 * p.2, p.2 * q.2) : Int × Int).2 ≠ 0 := by show p.2 * q.2 ≠ 0; omega
  obtain ⟨u, hu⟩ := h.dv
  obtain ⟨v, hv⟩ := k.dv
  refine ⟨(frX_ok z0).1, low_dvd (a := p.1 * u + q.1 * v) z0 ?_, far_low z0 (far_add h.fr k.fr)⟩
  show (p.1 * q.2 + q.1 * p.2) * d = (p.1 * u + q.1 * v) * (p.2 * q.2)
  rw [Int.add_mul, Int.add_mul]
  have e1 : p.1 * q.2 * d = p.1 * u * (p.2 * q.2) := by rw [hu]; ac_rfl
  have e2 : q.1 * p.2 * d = q.1 * v * (p.2 * q.2) := by rw [hv]; ac_rfl
  rw [e1, e2]
theorem Ov.mul {d : Int} {V K : Nat} {r : Int} {p : Int × Int} (h : Ov d V p) (k : r.natAbs ≤ K) : Ov d (K * V) (r * p.1, p.2) := ⟨h.pos, h.dv, far_mul h.fr k⟩
theorem Ov.mono {d : Int} {V W : Nat} {p : Int × Int} (h : Ov d V p) (k : V ≤ W) : Ov d W p := ⟨h.pos, h.dv, far_mono h.fr k⟩
theorem ov_al {d : Int} {V K n : Nat} {r : Nat → Int} {x : Nat → Int × Int} (hr : ∀ j, j < n → (r j).natAbs ≤ K) (hx : ∀ j, j < n → Ov d V (x j)) : ∀ k, k ≤ n → Ov d (k * (K * V)) (alK r x k)
  | 0, _ => ⟨Int.one_pos, Int.one_dvd _, by unfold far; exact Nat.zero_le _⟩
  | k + 1, hk => by
    have i := ov_al hr hx k (by omega)
    have j := (hx k (by omega)).mul (hr k (by omega))
    exact (i.add j).mono (by rw [Nat.add_mul, Nat.one_mul]; exact Nat.le_refl _)
/-- a point behind so many turns -/
structure okPn (n t : Nat) (x : Nat → Int × Int) : Prop where
  ex : ∃ d : Int, 0 < d ∧ 12 ∣ d ∧ d.natAbs ≤ 2 ^ (4 + 3 * t) ∧ ∀ k, k < n → Ov d (2 ^ (108 + 4 * t)) (x k)
theorem okPn.ok {n t : Nat} {x : Nat → Int × Int} (h : okPn n t x) : okX (113 + 7 * t) n x := fun k hk => by
  obtain ⟨d, d0, _, d2, hx⟩ := h.ex
  obtain ⟨x0, x1, x2⟩ := hx k hk
  have l : (x k).2.natAbs ≤ 2 ^ (4 + 3 * t) := Nat.le_trans (Nat.le_of_dvd (by omega) (Int.natAbs_dvd_natAbs.mpr x1)) d2
  have e : 2 ^ (108 + 4 * t) * 2 ^ (4 + 3 * t) = 2 ^ (112 + 7 * t) := by rw [← Nat.pow_add]; congr 1; omega
  have m : (x k).1.natAbs ≤ 2 ^ (112 + 7 * t) := by
    rw [← e]
    exact Nat.le_trans x2 (Nat.mul_le_mul_left _ l)
  exact ⟨x0, Nat.lt_of_le_of_lt m (Nat.pow_lt_pow_right (by decide) (by omega)), Nat.lt_of_le_of_lt l (Nat.pow_lt_pow_right (by decide) (by omega))⟩
theorem dvd12 {b : Int} (h0 : 0 < b) (h4 : b ≤ 4) : b ∣ 12 := by
  have : b = 1 ∨ b = 2 ∨ b = 3 ∨ b = 4 := by omega
  rcases this with rfl | rfl | rfl | rfl <;> decide
theorem ov_pt {B : Nat} {bs : List (Int × Int)} {x : Nat → Int × Int} {d : Int} (hd : 12 ∣ d) (h : okPt bs x) (hb : ∀ q ∈ bs, bnd B q.1 ∧ bnd B q.2) (k : Nat) (hk : k < bs.length) : Ov d (2 ^ B) (x k) := by
  obtain ⟨h0, h4, h1, h2⟩ := h k bs[k] (List.getElem?_eq_getElem hk)
  obtain ⟨b1, b2⟩ := hb _ (List.getElem_mem hk)
  refine ⟨h0, Int.dvd_trans (dvd12 h0 h4) hd, ?_⟩
  unfold far
  have b1 : (bs[k].1).natAbs ≤ 2 ^ B := Nat.le_of_lt b1
  have b2 : (bs[k].2).natAbs ≤ 2 ^ B := Nat.le_of_lt b2
  have e : ((2 ^ B : Nat) : Int) * (x k).2 = ((2 ^ B * (x k).2.natAbs : Nat) : Int) := by
    rw [Int.natCast_mul, Int.natAbs_of_nonneg (by omega)]
  have u := Int.mul_le_mul_of_nonneg_right (show bs[k].2 ≤ ((2 ^ B : Nat) : Int) by omega) (show 0 ≤ (x k).2 by omega)
  have v := Int.mul_le_mul_of_nonneg_right (show -((2 ^ B : Nat) : Int) ≤ bs[k].1 by omega) (show 0 ≤ (x k).2 by omega)
  rw [Int.neg_mul] at v
  rw [e] at u v
  omega
theorem okPn.step {n t : Nat} {m : Md} {ps : List (Int × Int)} {x w : Nat → Int × Int} (h : okPn n t x) (n3 : n ≤ 3) (sm : okSM m) (pl : ps.length ≤ 2) (pb : ∀ q ∈ ps, bnd 103 q.1 ∧ bnd 103 q.2) (hw : okPt ps w) : okPn n (t + 1) (bhK n ps.length m x w) := by
  obtain ⟨d, d0, d12, d2, hx⟩ := h.ex
  have dv := sm.div
  refine ⟨d * m.div, Int.mul_pos d0 (by omega), Int.dvd_trans d12 (Int.dvd_mul_right ..), ?_, fun k hk => ?_⟩
  · rw [Int.natAbs_mul]
    have : m.div.natAbs ≤ 2 ^ 3 := by omega
    exact Nat.le_trans (Nat.mul_le_mul d2 this) (by rw [← Nat.pow_add]; exact Nat.pow_le_pow_right (by decide) (by omega))
  · have b3 : ∀ {z : Int}, bnd 3 z → z.natAbs ≤ 7 := fun h => by have : _ < 2 ^ 3 := h; omega
    have b2 : ∀ {z : Int}, bnd 2 z → z.natAbs ≤ 3 := fun h => by have : _ < 2 ^ 2 := h; omega
    have a := ov_al (r := m.nexts k) (fun j _ => b3 (sm.nexts k j)) hx n (Nat.le_refl _)
    have b := ov_al (r := m.push k) (fun j _ => b2 (sm.push k j)) (fun j hj => ov_pt d12 hw pb j hj) ps.length (Nat.le_refl _)
    have tw : ∀ j, j < 2 → Ov d 1 (twoX j) := fun j _ => by
      unfold twoX
      split
      · exact ⟨by decide, Int.one_dvd _, by unfold far; decide⟩
      · exact ⟨by decide, Int.one_dvd _, by unfold far; decide⟩
    have ad : (m.add k).natAbs ≤ 2 ^ 103 := Nat.le_of_lt (sm.add k)
    have c := ov_al (r := twoR (m.steer k) (m.add k)) (K := 2 ^ 103) (fun j _ => by
      unfold twoR
      split
      · rw [sm.steer]; exact Nat.zero_le _
      · exact ad) tw 2 (Nat.le_refl _)
    have s : Ov d (2 * 2 ^ (108 + 4 * (t + 1))) (bhS n ps.length m x w k) := ((a.add b).add c).mono (by
      have e : 2 ^ (108 + 4 * (t + 1)) = 16 * 2 ^ (108 + 4 * t) := by rw [show 108 + 4 * (t + 1) = 4 + (108 + 4 * t) by omega, Nat.pow_add]
      have l : 2 ^ 108 ≤ 2 ^ (108 + 4 * t) := Nat.pow_le_pow_right (by decide) (by omega)
      have n1 : n * (7 * 2 ^ (108 + 4 * t)) ≤ 3 * (7 * 2 ^ (108 + 4 * t)) := Nat.mul_le_mul_right _ n3
      have p1 : ps.length * (3 * 2 ^ 103) ≤ 2 * (3 * 2 ^ 103) := Nat.mul_le_mul_right _ pl
      rw [e]
      generalize 2 ^ (108 + 4 * t) = V at *
      have q1 : (2 : Nat) ^ 108 = 32 * 2 ^ 103 := by decide
      generalize (2 : Nat) ^ 103 = W at *
      omega)
    have z := Int.mul_pos s.pos (show 0 < m.div by omega)
    have z0 : (((bhS n ps.length m x w k).1, (bhS n ps.length m x w k).2 * m.div) : Int × Int).2 ≠ 0 := by show (bhS n ps.length m x w k).2 * m.div ≠ 0; omega
    obtain ⟨u, hu⟩ := s.dv
    refine ⟨(frX_ok z0).1, low_dvd (a := (bhS n ps.length m x w k).1 * u) z0 ?_, far_low z0 ?_⟩
    · show (bhS n ps.length m x w k).1 * (d * m.div) = (bhS n ps.length m x w k).1 * u * ((bhS n ps.length m x w k).2 * m.div)
      rw [hu]
      ac_rfl
    · have f := s.fr
      unfold far at *
      dsimp only
      rw [Int.natAbs_mul]
      have e2 : 2 ≤ m.div.natAbs := by omega
      generalize 2 ^ (108 + 4 * (t + 1)) = V at *
      have g := Nat.mul_le_mul_left (V * (bhS n ps.length m x w k).2.natAbs) e2
      have e3 : V * ((bhS n ps.length m x w k).2.natAbs * m.div.natAbs) = V * (bhS n ps.length m x w k).2.natAbs * m.div.natAbs := by ac_rfl
      rw [e3]
      have e4 : 2 * V * (bhS n ps.length m x w k).2.natAbs = V * (bhS n ps.length m x w k).2.natAbs * 2 := by rw [Nat.mul_assoc, Nat.mul_comm]
      omega
end Lp

namespace Dl
/-! The D-layer, part 68: shapes of rooms; rooms or None compared. -/
open PySem PySem.Spec
open PyProof.Rows L2
end Dl

/-! The D-layer, part 69: data in a list or a tuple of data, deep. -/
namespace Dl
open PySem PySem.Spec
open PyProof.Rows L2
section
variable {X : Cx}
end
end Dl

/-! The D-layer, part 70: the worst. -/
namespace Dl
open PySem PySem.Spec
open PyProof.Rows L2
def plainB : List Md → Bool
  | [m] => m.rows.isEmpty
  | _ => false
abbrev N_Thing_is_plain : List Str := ["self"]
abbrev g_Thing_is_plain (CM CT : Addr) : DF := fun ds Q _ => ∃ (n : Nat) (ps : List (Int × Int)) (ms : List Md), ds = [thI CT n ps (ms.map (mdI CM n ps.length))] ∧ ms ≠ [] ∧ Q (.bl (plainB ms))
def tb_Thing_is_plain (K : PySem.W.Frag) : DS :=
  (dRet (dAndV (dOp kEq (dCB kLen (dCons (dFld K "ways" (dVar 0)) dNil)) (dC (.int 1))) (dOp kEqZ (dFld K "rows" (dOp kIx (dFld K "ways" (dVar 0)) (dC (.int 0)))) (dLst dNil))))
theorem rd_Thing_is_plain {K : PySem.W.Frag} {CM CT : Addr} (hK : ThK K CM CT) (ds : List D) (Q E : EQ) (_ : ds.length = 1) (h : g_Thing_is_plain CM CT ds Q E) : tb_Thing_is_plain K (dE Q E) (startD N_Thing_is_plain ds) := by
  obtain ⟨n, ps, ms, rfl, ne, q⟩ := h
  have k1 := hK.f_Thing_ways
  have k2 := hK.f_Mode_rows
  unfold tb_Thing_is_plain dE thI thF
  match ms, ne with
  | [m], _ =>
    unfold mdI mdF
    walk_at "go"
    cases hr : m.rows with
    | nil =>
      have q : Q (.bl m.rows.isEmpty) := q
      rw [hr] at q
      walk_at "go"
      exact ⟨plain_of rfl, plain_of rfl, q⟩
    | cons r rs =>
      have q : Q (.bl m.rows.isEmpty) := q
      rw [hr] at q
      walk_at "go"
      exact q
  | m :: m2 :: ms, _ =>
    have q : Q (.bl false) := q
    walk_at "go"
    exact q
end Dl

/-! The D-layer, part 71: the worst, told. -/
namespace Dl
open PySem PySem.Spec
open PyProof.Rows L2

/-- what may be led back -/
structure okLd (n : Nat) (ps : List (Int × Int)) (m : Md) (t : Nat → Int) (K : Nat) : Prop where
  n1 : 1 ≤ n
  n3 : n ≤ 3
  pl : ps.length ≤ 2
  pb : ∀ q ∈ ps, q.1 ≤ q.2 ∧ bnd 103 q.1 ∧ bnd 103 q.2
  sm : okSM m
  t : ∀ j, bnd 2 (t j)
  K : K ≤ 20
section
variable {n K : Nat} {ps : List (Int × Int)} {m : Md} {t : Nat → Int}
end
end Dl

/-! The D-layer, part 72: the worst, whole. -/
namespace Dl
open PySem PySem.Spec
open PyProof.Rows L2

end Dl

/-! Linear inequalities, part 20: walks in one mode, and what a row comes to at their end. -/
namespace Lp
open Dl
section
variable {n K : Nat} {ps : List (Int × Int)} {m : Md} {t : Nat → Int}
end
end Lp

/-! Linear inequalities, part 21: boxes that lack a side. -/
namespace Lp
open Dl
section
variable {n b : Nat} {bs : List (Int × Int)} {rs : List (Nat → Int)} {t : Nat → Int}
def hasS (n : Nat) (bs : List (Int × Int)) (rs : List (Nat → Int)) (k s : Nat) : Prop := ∃ r ∈ rs, ∀ j, j ≤ n → r j = sdR n bs k s j
def wants (n : Nat) (bs : List (Int × Int)) (rs : List (Nat → Int)) (t : Nat → Int) : Prop := ∀ k, k < n → (0 < t k → hasS n bs rs k 1) ∧ (t k < 0 → hasS n bs rs k 0)
end
end Lp

/-! Linear inequalities, part 22: the corners of a box lie at its ends. -/
namespace Lp
open Dl
section
variable {n b : Nat} {bs : List (Int × Int)} {rs : List (Nat → Int)}
end
end Lp

/-! The D-layer, part 73: defs that call themselves; data, kept. -/
namespace Dl
open PySem PySem.Spec
open PyProof.Rows L2
/-! ### nested data: lists and tuples of ints, truths, words, None -/
mutual
def D.dat : Nat → D → Bool
  | _, .non => true
  | _, .bl _ => true
  | _, .int _ => true
  | _, .str _ => true
  | n + 1, .tup ds => D.dats n ds
  | n + 1, .lst ds => D.dats n ds
  | _, _ => false
def D.dats : Nat → List D → Bool
  | _, [] => true
  | n, d :: ds => D.dat n d && D.dats n ds
end
end Dl

/-! The D-layer, part 74: shares, and no shares. -/
namespace Dl
open PySem PySem.Spec
open PyProof.Rows L2

mutual
/-- no int farther than so -/
def D.small (B : Nat) : D → Bool
  | .int z => decide (z.natAbs < 2 ^ B)
  | .tup ds => D.smalls B ds
  | .lst ds => D.smalls B ds
  | _ => true
def D.smalls (B : Nat) : List D → Bool
  | [] => true
  | d :: ds => D.small B d && D.smalls B ds
end
/-! ### what shares show -/
end Dl

/-! The D-layer, part 75: papers of rooms. -/
namespace Dl
open PySem PySem.Spec
open PyProof.Rows L2
structure PpK (K : PySem.W.Frag) (C_Settles C_Rooms : Addr) : Prop where
  f_Settles_start : FldOk K C_Settles "start"
  f_Settles_rows : FldOk K C_Settles "rows"
  f_Settles_turn : FldOk K C_Settles "turn"
  f_Rooms_rooms : FldOk K C_Rooms "rooms"
  f_Rooms_back : FldOk K C_Rooms "back"
  f_Rooms_starts : FldOk K C_Rooms "starts"
  f_Rooms_steps : FldOk K C_Rooms "steps"
  f_Rooms_stays : FldOk K C_Rooms "stays"
  i_Settles : InsTy K C_Settles
  k_Settles_Settles : PySem.W.kitOne K (.ref C_Settles) (.ref C_Settles) = some true

/-! ### lists of shares -/
/-! ### the steps -/
/-- what a thing is that papers may be about -/
structure okPp (n : Nat) (ps : List (Int × Int)) (ms : List Md) : Prop where
  n1 : 1 ≤ n
  n3 : n ≤ 3
  pl : ps.length ≤ 6
  pb : ∀ q ∈ ps, bnd 400 q.1 ∧ bnd 400 q.2
  md : ∀ m ∈ ms, okMd 400 m ∧ m.rows.length ≤ 20 ∧ ∀ r ∈ m.rows, ∀ j, bnd 400 (r j)
section
variable {n : Nat} {ps : List (Int × Int)} {ms : List Md}
end
end Dl

/-! The D-layer, part 76: papers of rooms, let by. -/
namespace Dl
open PySem PySem.Spec
open PyProof.Rows L2

/-! ### made -/
/-! ### the room that follows -/
/-! ### right rooms -/
end Dl

/-! The D-layer, part 77: papers of rooms, let by. -/
namespace Dl
open PySem PySem.Spec
open PyProof.Rows L2

/-- what a paper of rooms may be made of -/
structure okRm9 (n : Nat) (start rows : List (Nat → Int)) (Rs : List (List (Nat → Int))) : Prop where
  st : start.length ≤ 60 ∧ ∀ r ∈ start, ∀ j, bnd 400 (r j)
  rw : rows.length ≤ 10000 ∧ ∀ r ∈ rows, ∀ j, bnd 400 (r j)
  rm : ∀ R ∈ Rs, R.length ≤ 60 ∧ ∀ r ∈ R, ∀ j, bnd 400 (r j)
end Dl

/-! Numbers turned: products of tables, a way there and back; what shares show is shown of the rows turned. -/
namespace Dl
open PySem PySem.Spec
open PyProof.Rows L2
theorem dotC (r y : Nat → Int) : ∀ n, dot r y n = dot y r n
  | 0 => rfl
  | n + 1 => by unfold dot; rw [dotC r y n, Int.mul_comm]
/-- the product of two tables -/
def mulM (n : Nat) (A B : Mat) : Mat := fun i j => dot (A i) (fun k => B k j) n
def idM : Mat := fun i j => if i = j then 1 else 0
theorem dot_idl {i n : Nat} (y : Nat → Int) (h : i < n) : dot (idM i) y n = y i := by
  rw [dot_one h (fun j _ hj => by unfold idM; rw [if_neg (fun z => hj z.symm)]; exact Int.zero_mul _)]
  unfold idM
  rw [if_pos rfl, Int.one_mul]
theorem dot_idr {j n : Nat} (r : Nat → Int) (h : j < n) : dot r (fun k => idM k j) n = r j := by
  rw [dot_one h (fun k _ hk => by unfold idM; rw [if_neg hk]; exact Int.mul_zero _)]
  unfold idM
  rw [if_pos rfl, Int.mul_one]
/-- a way there and back -/
structure Inv (n : Nat) (T B : Mat) : Prop where
  tb : ∀ i j, i < n → j < n → mulM n T B i j = idM i j
  bt : ∀ i j, i < n → j < n → mulM n B T i j = idM i j
theorem Inv.symm {n : Nat} {T B : Mat} (h : Inv n T B) : Inv n B T := ⟨h.bt, h.tb⟩
theorem Inv.id (n : Nat) : Inv n idM idM := ⟨fun i j hi _ => dot_idl (fun k => idM k j) hi, fun i j hi _ => dot_idl (fun k => idM k j) hi⟩
/-- there and back again -/
theorem Inv.row {n : Nat} {T B : Mat} (h : Inv n T B) (r : Nat → Int) {j : Nat} (hj : j < n) : dot (fun k => dot r (fun i => B i k) n) (fun k => T k j) n = r j := by
  rw [dot_turn r (fun k => T k j) B n n]
  exact (dot_congr_r (z := fun i => idM i j) fun i hi => h.bt i j hi hj).trans (dot_idr r hj)
/-! ### one step of a way there and back -/
def negT (i : Nat) (T : Mat) : Mat := fun a b => if a = i then 0 - T a b else T a b
def negB (i : Nat) (B : Mat) : Mat := fun a b => if b = i then 0 - B a b else B a b
def addT (i j : Nat) (c : Int) (T : Mat) : Mat := fun a b => if a = i then T a b + c * T j b else T a b
def addB (i j : Nat) (c : Int) (B : Mat) : Mat := fun a b => if b = j then B a b - c * B a i else B a b
theorem dot_pick {n : Nat} (r y : Nat → Int) {p : Nat} (hp : p < n) (d : Int) : dot (fun k => if k = p then r k + d else r k) y n = dot r y n + d * y p := by
  have e : (fun k => if k = p then r k + d else r k) = fun k => r k + (if k = p then d else 0) := by
    funext k
    split <;> omega
  rw [e, dot_add]
  congr 1
  rw [dot_one hp (fun j _ hj => by rw [if_neg hj]; exact Int.zero_mul _), if_pos rfl]
theorem dot_pick_r {n : Nat} (r y : Nat → Int) {p : Nat} (hp : p < n) (d : Int) : dot r (fun k => if k = p then y k + d else y k) n = dot r y n + r p * d := by
  rw [dotC, dot_pick y r hp d, dotC, Int.mul_comm]
theorem dot_neg (r y : Nat → Int) (n : Nat) : dot (fun k => 0 - r k) y n = 0 - dot r y n := by
  have e : (fun k => 0 - r k) = fun k => (-1) * r k := by funext k; omega
  rw [e, dot_mul]
  omega
theorem dot_neg_r (r y : Nat → Int) (n : Nat) : dot r (fun k => 0 - y k) n = 0 - dot r y n := by
  rw [dotC, dot_neg, dotC]
theorem dot_addc (r s y : Nat → Int) (c : Int) (n : Nat) : dot (fun k => r k + c * s k) y n = dot r y n + c * dot s y n := by
  rw [dot_add, dot_mul]
theorem dot_subc_r (r y z : Nat → Int) (c : Int) (n : Nat) : dot r (fun k => y k - c * z k) n = dot r y n - c * dot r z n := by
  have e : (fun k => y k - c * z k) = fun k => y k + (-c) * z k := by funext k; rw [Int.neg_mul]; omega
  rw [e, dot_add_r, dot_mul_r, Int.neg_mul]
  omega
theorem Inv.neg {n i : Nat} {T B : Mat} (h : Inv n T B) (hi : i < n) : Inv n (negT i T) (negB i B) := by
  refine ⟨fun a b ha hb => ?_, fun a b ha hb => ?_⟩
  · have e := h.tb a b ha hb
    unfold mulM at e ⊢
    have e1 : negT i T a = if a = i then fun k => 0 - T a k else T a := by unfold negT; split <;> rfl
    have e2 : (fun k => negB i B k b) = if b = i then fun k => 0 - B k b else fun k => B k b := by unfold negB; split <;> rfl
    rw [e1, e2]
    by_cases c1 : a = i
    · by_cases c2 : b = i
      · rw [if_pos c1, if_pos c2, dot_neg, dot_neg_r, e]; omega
      · rw [if_pos c1, if_neg c2, dot_neg, e]
        unfold idM
        rw [if_neg (by omega)]; rfl
    · by_cases c2 : b = i
      · rw [if_neg c1, if_pos c2, dot_neg_r, e]
        unfold idM
        rw [if_neg (by omega)]; rfl
      · rw [if_neg c1, if_neg c2, e]
  · have e := h.bt a b ha hb
    unfold mulM at e ⊢
    rw [← e]
    have key : ∀ k, negB i B a k * negT i T k b = B a k * T k b := fun k => by
      unfold negB negT
      split <;> grind
    have gen : ∀ m, dot (negB i B a) (fun k => negT i T k b) m = dot (B a) (fun k => T k b) m := fun m => by
      induction m with
      | zero => rfl
      | succ m ih =>
        show dot (negB i B a) (fun k => negT i T k b) m + negB i B a m * negT i T m b = dot (B a) (fun k => T k b) m + B a m * T m b
        rw [ih, key]
    exact gen n
theorem Inv.add {n i j : Nat} {c : Int} {T B : Mat} (h : Inv n T B) (hi : i < n) (hj : j < n) (hij : i ≠ j) : Inv n (addT i j c T) (addB i j c B) := by
  refine ⟨fun a b ha hb => ?_, fun a b ha hb => ?_⟩
  · unfold mulM
    have e1 : addT i j c T a = if a = i then fun k => T a k + c * T j k else T a := by unfold addT; split <;> rfl
    have e2 : (fun k => addB i j c B k b) = if b = j then fun k => B k b - c * B k i else fun k => B k b := by unfold addB; split <;> rfl
    have tb : ∀ a b, a < n → b < n → dot (T a) (fun k => B k b) n = if a = b then 1 else 0 := h.tb
    rw [e1, e2]
    show _ = if a = b then (1 : Int) else 0
    by_cases c1 : a = i
    · by_cases c2 : b = j
      · rw [if_pos c1, if_pos c2, dot_addc, dot_subc_r, dot_subc_r, tb a b ha hb, tb a i ha hi, tb j b hj hb, tb j i hj hi]
        rw [if_neg (by omega), if_pos c1, if_pos c2.symm, if_neg (by omega)]
        omega
      · rw [if_pos c1, if_neg c2, dot_addc, tb a b ha hb, tb j b hj hb, if_neg (show ¬ j = b by omega)]
        omega
    · by_cases c2 : b = j
      · rw [if_neg c1, if_pos c2, dot_subc_r, tb a b ha hb, tb a i ha hi, if_neg c1]
        omega
      · rw [if_neg c1, if_neg c2, tb a b ha hb]
  · have e := h.bt a b ha hb
    unfold mulM at e ⊢
    have e1 : addB i j c B a = fun k => if k = j then B a k + (0 - c * B a i) else B a k := by
      funext k
      unfold addB
      split <;> omega
    have e2 : (fun k => addT i j c T k b) = fun k => if k = i then T k b + c * T j b else T k b := by funext k; rfl
    rw [e1, e2, dot_pick_r _ _ hi, dot_pick _ _ hj, e, if_neg hij]
    grind
end Dl

/-! What shares show is shown of the rows turned; papers of rooms turned. -/
namespace Dl
open PySem PySem.Spec
open PyProof.Rows L2
section
variable {n : Nat} {T B : Mat}
/-! ### there and back -/
end
end Dl

/-! Things turned, read once. -/
namespace Dl
open PySem PySem.Spec
open PyProof.Rows L2

/-- a thing that may be turned -/
structure okTn (n : Nat) (ps : List (Int × Int)) (ms : List Md) : Prop where
  n1 : 1 ≤ n
  n3 : n ≤ 3
  p6 : ps.length ≤ 6
  pp : ∀ q ∈ ps, q.1 ≤ q.2
  m1 : ms ≠ []
  m40 : ms.length ≤ 40
  md : ∀ m ∈ ms, okMd 1000 m ∧ 1 ≤ m.div ∧ (∀ j, bnd 1000 (m.steer j)) ∧ ∀ r ∈ m.rows, ∀ j, bnd 1000 (r j)
end Dl

/-! Linear inequalities, part 23: what a paper of rooms shows. -/
namespace Lp
open Dl
section
variable {m n : Nat} {R : Mat} {t : Nat → Int}
end
/-! ### point and pushes -/
section
variable {n : Nat} {ps : List (Int × Int)} {m : Md} {x w : V}
end
/-! ### runs -/
section
variable {n : Nat} {ps : List (Int × Int)} {ms : List Md} {start rows : List (Nat → Int)} {turn back : Int} {Rs : List (List (Nat → Int))} {d1 d2 d3 : D}
end
end Lp

/-! The D-layer, part 78: boxes, shares spoilt -/
namespace Dl
open PySem PySem.Spec
open PyProof.Rows L2

open Lp
/-! ### data -/
/-! ### shares spoilt -/
/-! ### lists of them -/
end Dl

/-! The D-layer, more: lists that are changed behind: what is made anew, what else stays. -/
namespace Dl
open PySem PySem.Spec
open PyProof.Rows L2
/-! ### trees without a list that may be changed -/
mutual
def D.noMu : D → Bool
  | .mu _ => false
  | .tup ds => D.noMus ds
  | .lst ds => D.noMus ds
  | .frl ds => D.noMus ds
  | .ins _ fs => D.noMuF fs
  | .dic kvs => D.noMuK kvs
  | _ => true
def D.noMus : List D → Bool
  | [] => true
  | d :: ds => D.noMu d && D.noMus ds
def D.noMuF : List (Str × D) → Bool
  | [] => true
  | (_, d) :: ds => D.noMu d && D.noMuF ds
def D.noMuK : List (Key × D) → Bool
  | [] => true
  | (_, d) :: ds => D.noMu d && D.noMuK ds
end
/-! every list may be changed -/
mutual
def D.toMu : D → D
  | .mu ds => .mu (D.toMus ds)
  | .tup ds => .tup (D.toMus ds)
  | .lst ds => .mu (D.toMus ds)
  | .frl ds => .frl (D.toMus ds)
  | .ins C fs => .ins C (D.toMuF fs)
  | .dic kvs => .dic (D.toMuK kvs)
  | d => d
def D.toMus : List D → List D
  | [] => []
  | d :: ds => D.toMu d :: D.toMus ds
def D.toMuF : List (Str × D) → List (Str × D)
  | [] => []
  | (f, d) :: ds => (f, D.toMu d) :: D.toMuF ds
def D.toMuK : List (Key × D) → List (Key × D)
  | [] => []
  | (f, d) :: ds => (f, D.toMu d) :: D.toMuK ds
end
/-- the lists that may be changed are forgotten -/
def sfOf : Tg → Tg
  | .k => .k
  | _ => .a
theorem sf_l (F : Fz) (p : Addr) (h : sfOf (F.j p) = .j) : ∃ vs, F.sh p = some (.lst vs) := by
  cases q : F.j p <;> rw [q] at h <;> cases h
theorem sf_f (F : Fz) (p : Addr) (h : F.sh p = none) : sfOf (F.j p) = .a := by
  cases q : F.j p with
  | k => rw [F.sh_of (by rw [q]; exact fun z => nomatch z)] at h; rw [F.wf p h] at q; cases q
  | a => rfl
  | j => rfl
def Fz.safe (F : Fz) : Fz := ⟨F.sh, fun p => sfOf (F.j p), sf_l F, sf_f F⟩
theorem Fz.safe_h (F : Fz) {p : Addr} (h : F.j p ≠ .j) : F.safe.h p = F.h p := F.sh_of h
theorem Fz.safe_j (F : Fz) {p : Addr} (h : F.j p ≠ .j) : F.safe.j p = F.j p := by
  show sfOf (F.j p) = F.j p
  cases q : F.j p <;> first | rfl | exact absurd q h
theorem Fz.safe_kh (F : Fz) : F.safe.kh = F.kh := funext fun p => by
  cases q : F.j p with
  | k => rw [F.safe.kh_of (by show sfOf (F.j p) = .k; rw [q]; rfl), F.kh_of q, F.safe_h (by rw [q]; exact fun z => nomatch z)]
  | a => unfold Fz.kh; rw [q, show F.safe.j p = .a from by show sfOf (F.j p) = .a; rw [q]; rfl]
  | j => unfold Fz.kh; rw [q, show F.safe.j p = .a from by show sfOf (F.j p) = .a; rw [q]; rfl]
def isL : HO → Bool
  | .lst _ => true
  | _ => false
theorem Fz.j_not {F : Fz} {p : Addr} {o : HO} (h : F.h p = some o) (n : isL o = false) : F.j p ≠ .j := fun q => by
  obtain ⟨vs, z⟩ := F.wl p q
  rw [h] at z
  cases z
  cases n
theorem tg_aj {t : Tg} (h : t = .a) : t ≠ .j := fun z => by rw [h] at z; cases z
section
variable {K : PySem.W.Frag} {F : Fz}
mutual
theorem Rep.safe : ∀ {d : D} {v : V}, d.noMu = true → Rep K F d v → Rep K F.safe d v
  | _, _, _, .non => .non
  | _, _, _, .bl b => .bl b
  | _, _, _, .int i => .int i
  | _, _, _, .str x => .str x
  | _, _, _, .ty n => .ty n
  | _, _, _, .cls C => .cls C
  | _, _, _, .ob v => .ob v
  | _, _, h, .tup s l r => .tup ((F.safe_h (F.j_not s rfl)).trans s) l (Reps.safe (by unfold D.noMu at h; exact h) r)
  | _, _, h, .lst s q l r => .lst ((F.safe_h (tg_aj q)).trans s) ((F.safe_j (tg_aj q)).trans q) l (Reps.safe (by unfold D.noMu at h; exact h) r)
  | _, _, h, .mu .. => by unfold D.noMu at h; cases h
  | _, _, h, .frl s l r => .frl (by rw [F.safe_kh]; exact s) l (Reps.safe (by unfold D.noMu at h; exact h) r)
  | _, _, h, .ins s r => .ins ((F.safe_h (F.j_not s rfl)).trans s) (RepF.safe (by unfold D.noMu at h; exact h) r)
  | _, _, h, .dic s r => .dic ((F.safe_h (F.j_not s rfl)).trans s) (RepK.safe (by unfold D.noMu at h; exact h) r)
theorem Reps.safe : ∀ {d : List D} {v : List V}, D.noMus d = true → Reps K F d v → Reps K F.safe d v
  | _, _, _, .nil => .nil
  | _, _, h, .cons r s => by
    unfold D.noMus at h; rw [Bool.and_eq_true] at h
    exact .cons (Rep.safe h.1 r) (Reps.safe h.2 s)
theorem RepF.safe : ∀ {d : List (Str × D)} {v : List (Str × V)}, D.noMuF d = true → RepF K F d v → RepF K F.safe d v
  | _, _, _, .nil => .nil
  | _, _, h, .cons r s => by
    unfold D.noMuF at h; rw [Bool.and_eq_true] at h
    exact .cons (Rep.safe h.1 r) (RepF.safe h.2 s)
theorem RepK.safe : ∀ {d : List (Key × D)} {v : List (Key × V)}, D.noMuK d = true → RepK K F d v → RepK K F.safe d v
  | _, _, _, .nil => .nil
  | _, _, h, .cons r s => by
    unfold D.noMuK at h; rw [Bool.and_eq_true] at h
    exact .cons (Rep.safe h.1 r) (RepK.safe h.2 s)
end
end
/-! ### made anew: every list that stands may be changed, so that what is made has none of them -/
def jkOf : Option HO → Tg → Tg
  | some (.lst _), .a => .j
  | _, t => t
theorem jkOf_k {o : Option HO} {t : Tg} (h : t = .k) : jkOf o t = .k := by
  subst h
  cases o with
  | none => rfl
  | some o => cases o <;> rfl
theorem jkOf_j {o : Option HO} {t : Tg} (h : jkOf o t = .j) : (∃ vs, o = some (.lst vs)) ∨ t = .j := by
  cases o with
  | none => exact .inr h
  | some o => cases o <;> first | exact .inl ⟨_, rfl⟩ | exact .inr h
theorem jkOf_nk {o : Option HO} {t : Tg} (h : jkOf o t = .k) : t = .k := by
  cases o with
  | none => exact h
  | some o => cases o <;> first | exact h | (cases t <;> first | rfl | cases h)
theorem jk_l (F : Fz) (p : Addr) (h : jkOf (F.h p) (F.j p) = .j) : ∃ vs, F.h p = some (.lst vs) := by
  rcases jkOf_j h with z | z
  · exact z
  · exact F.wl p z
theorem jk_f (F : Fz) (p : Addr) (h : F.h p = none) : jkOf (F.h p) (F.j p) = .a := by rw [h, F.wf p h]; rfl
def Fz.junk (F : Fz) : Fz := ⟨F.h, fun p => jkOf (F.h p) (F.j p), jk_l F, jk_f F⟩
theorem Fz.junk_kh (F : Fz) : Same F.kh F.junk.kh := fun p o e => by
  obtain ⟨q, e⟩ := F.kh_inv e
  rw [F.junk.kh_of (jkOf_k q)]
  exact e
section
variable {K : PySem.W.Frag} {F : Fz}
mutual
theorem Rep.junk : ∀ {d : D} {v : V}, Rep K F d v → Rep K F.junk d.toMu v
  | _, _, .non => by unfold D.toMu; exact .non
  | _, _, .bl b => by unfold D.toMu; exact .bl b
  | _, _, .int i => by unfold D.toMu; exact .int i
  | _, _, .str x => by unfold D.toMu; exact .str x
  | _, _, .ty n => by unfold D.toMu; exact .ty n
  | _, _, .cls C => by unfold D.toMu; exact .cls C
  | _, _, .ob v => by unfold D.toMu; exact .ob v
  | _, _, .tup s l r => by unfold D.toMu; exact .tup s l (Reps.junk r)
  | _, _, .lst s q l r => by unfold D.toMu; exact .mu s (by show jkOf (F.h _) (F.j _) = .j; rw [s, q]; rfl) l (Reps.junk r)
  | _, _, .mu s q l r => by unfold D.toMu; exact .mu s (by show jkOf (F.h _) (F.j _) = .j; rw [s, q]; rfl) l (Reps.junk r)
  | _, _, .frl s l r => by unfold D.toMu; exact .frl (same_seqL F.junk_kh s) l (Reps.junk r)
  | _, _, .ins s r => by unfold D.toMu; exact .ins s (RepF.junk r)
  | _, _, .dic s r => by unfold D.toMu; exact .dic s (RepK.junk r)
theorem Reps.junk : ∀ {d : List D} {v : List V}, Reps K F d v → Reps K F.junk (D.toMus d) v
  | _, _, .nil => by unfold D.toMus; exact .nil
  | _, _, .cons r s => by unfold D.toMus; exact .cons (Rep.junk r) (Reps.junk s)
theorem RepF.junk : ∀ {d : List (Str × D)} {v : List (Str × V)}, RepF K F d v → RepF K F.junk (D.toMuF d) v
  | _, _, .nil => by unfold D.toMuF; exact .nil
  | _, _, .cons r s => by unfold D.toMuF; exact .cons (Rep.junk r) (RepF.junk s)
theorem RepK.junk : ∀ {d : List (Key × D)} {v : List (Key × V)}, RepK K F d v → RepK K F.junk (D.toMuK d) v
  | _, _, .nil => by unfold D.toMuK; exact .nil
  | _, _, .cons r s => by unfold D.toMuK; exact .cons (Rep.junk r) (RepK.junk s)
end
end
/-- what has come since may be changed -/
def bkOf (o : Option HO) (t : Tg) (o2 : Option HO) (t2 : Tg) : Tg := match o with
  | some _ => t
  | none => jkOf o2 t2
theorem bk_l (F F2 : Fz) (e : Same F.h F2.h) (p : Addr) (h : bkOf (F.h p) (F.j p) (F2.h p) (F2.j p) = .j) : ∃ vs, F2.h p = some (.lst vs) := by
  cases q : F.h p with
  | some o =>
    rw [q] at h
    obtain ⟨vs, z⟩ := F.wl p h
    exact ⟨vs, e _ _ z⟩
  | none =>
    rw [q] at h
    rcases jkOf_j (show jkOf (F2.h p) (F2.j p) = .j from h) with z | z
    · exact z
    · exact F2.wl p z
theorem bk_f (F F2 : Fz) (e : Same F.h F2.h) (p : Addr) (h : F2.h p = none) : bkOf (F.h p) (F.j p) (F2.h p) (F2.j p) = .a := by
  rw [e.free h, h, F2.wf p h]
  rfl
def Fz.since (F F2 : Fz) (e : Same F.h F2.h) : Fz := ⟨F2.h, fun p => bkOf (F.h p) (F.j p) (F2.h p) (F2.j p), bk_l F F2 e, bk_f F F2 e⟩
theorem Fz.since_old {F F2 : Fz} (e : Same F.h F2.h) {p : Addr} (h : F.h p ≠ none) : (F.since F2 e).j p = F.j p := by
  show bkOf (F.h p) (F.j p) (F2.h p) (F2.j p) = F.j p
  cases q : F.h p with
  | some o => rfl
  | none => exact absurd q h
theorem Fz.since_new {F F2 : Fz} (e : Same F.h F2.h) {p : Addr} (h : F.h p = none) : (F.since F2 e).j p = jkOf (F2.h p) (F2.j p) := by
  show bkOf (F.h p) (F.j p) (F2.h p) (F2.j p) = _
  rw [h]
  rfl
section
variable {K : PySem.W.Frag} {F F2 : Fz}
theorem junk_s (f : SameF F.junk F2) : Same F.h F2.h := f.s
theorem since_a (f : SameF F.junk F2) {p : Addr} {vs : List V} (h : F2.h p = some (.lst vs)) (q : F2.j p = .a) : (F.since F2 (junk_s f)).j p = .j := by
  cases z : F.h p with
  | none => rw [Fz.since_new (junk_s f) z, h, q]; rfl
  | some o =>
    have e := f.s _ _ z
    rw [h] at e
    cases e
    have e2 := f.j p (show F.h p ≠ none by rw [z]; exact fun z => nomatch z)
    rw [q, show F.junk.j p = jkOf (F.h p) (F.j p) from rfl, z] at e2
    rw [Fz.since_old (junk_s f) (by rw [z]; exact fun z => nomatch z)]
    cases w : F.j p <;> rw [w] at e2 <;> cases e2
theorem since_k (f : SameF F.junk F2) : Same F2.kh (F.since F2 (junk_s f)).kh := fun p o e => by
  obtain ⟨q, e⟩ := F2.kh_inv e
  rw [Fz.kh_of _ (show (F.since F2 (junk_s f)).j p = .k from by
    cases z : F.h p with
    | none => rw [Fz.since_new (junk_s f) z]; exact jkOf_k q
    | some o =>
      rw [Fz.since_old (junk_s f) (by rw [z]; exact fun z => nomatch z)]
      have e2 := f.j p (show F.h p ≠ none by rw [z]; exact fun z => nomatch z)
      rw [q] at e2
      exact jkOf_nk e2.symm)]
  exact e
mutual
theorem Rep.since (f : SameF F.junk F2) : ∀ {d : D} {v : V}, d.noMu = true → Rep K F2 d v → Rep K (F.since F2 (junk_s f)) d.toMu v
  | _, _, _, .non => by unfold D.toMu; exact .non
  | _, _, _, .bl b => by unfold D.toMu; exact .bl b
  | _, _, _, .int i => by unfold D.toMu; exact .int i
  | _, _, _, .str x => by unfold D.toMu; exact .str x
  | _, _, _, .ty n => by unfold D.toMu; exact .ty n
  | _, _, _, .cls C => by unfold D.toMu; exact .cls C
  | _, _, _, .ob v => by unfold D.toMu; exact .ob v
  | _, _, h, .tup s l r => by unfold D.toMu; exact .tup s l (Reps.since f (by unfold D.noMu at h; exact h) r)
  | _, _, h, .lst s q l r => by unfold D.toMu; exact .mu s (since_a f s q) l (Reps.since f (by unfold D.noMu at h; exact h) r)
  | _, _, h, .mu .. => by unfold D.noMu at h; cases h
  | _, _, h, .frl s l r => by unfold D.toMu; exact .frl (same_seqL (since_k f) s) l (Reps.since f (by unfold D.noMu at h; exact h) r)
  | _, _, h, .ins s r => by unfold D.toMu; exact .ins s (RepF.since f (by unfold D.noMu at h; exact h) r)
  | _, _, h, .dic s r => by unfold D.toMu; exact .dic s (RepK.since f (by unfold D.noMu at h; exact h) r)
theorem Reps.since (f : SameF F.junk F2) : ∀ {d : List D} {v : List V}, D.noMus d = true → Reps K F2 d v → Reps K (F.since F2 (junk_s f)) (D.toMus d) v
  | _, _, _, .nil => by unfold D.toMus; exact .nil
  | _, _, h, .cons r s => by
    unfold D.noMus at h; rw [Bool.and_eq_true] at h
    unfold D.toMus
    exact .cons (Rep.since f h.1 r) (Reps.since f h.2 s)
theorem RepF.since (f : SameF F.junk F2) : ∀ {d : List (Str × D)} {v : List (Str × V)}, D.noMuF d = true → RepF K F2 d v → RepF K (F.since F2 (junk_s f)) (D.toMuF d) v
  | _, _, _, .nil => by unfold D.toMuF; exact .nil
  | _, _, h, .cons r s => by
    unfold D.noMuF at h; rw [Bool.and_eq_true] at h
    unfold D.toMuF
    exact .cons (Rep.since f h.1 r) (RepF.since f h.2 s)
theorem RepK.since (f : SameF F.junk F2) : ∀ {d : List (Key × D)} {v : List (Key × V)}, D.noMuK d = true → RepK K F2 d v → RepK K (F.since F2 (junk_s f)) (D.toMuK d) v
  | _, _, _, .nil => by unfold D.toMuK; exact .nil
  | _, _, h, .cons r s => by
    unfold D.noMuK at h; rw [Bool.and_eq_true] at h
    unfold D.toMuK
    exact .cons (Rep.since f h.1 r) (RepK.since f h.2 s)
end
theorem Go.since {H H' : Hp} (g : Go F.junk H F2 H') : Go F H (F.since F2 (junk_s g.ff)) H' :=
  ⟨⟨(junk_s g.ff : Same F.h F2.h), fun p h => Fz.since_old (junk_s g.ff) h⟩, g.hh, g.fh, g.nn⟩
end
/-! ### names, seen so -/
def muSl : Sl → Sl
  | .sh d => .sh d.toMu
  | .ow ds => .ow (D.toMus ds)
  | .oi C fs => .oi C (D.toMuF fs)
  | .od _ => .no
  | .no => .no
def muEnv : Env' → Env'
  | [] => []
  | s :: ρ => muSl s :: muEnv ρ
theorem muEnv_map : ∀ ρ : Env', muEnv ρ = ρ.map muSl
  | [] => rfl
  | s :: ρ => congrArg (muSl s :: ·) (muEnv_map ρ)
theorem muEnv_get {ρ : Env'} {i : Nat} {x : Sl} (h : (muEnv ρ)[i]? = some x) : ∃ s, ρ[i]? = some s ∧ x = muSl s := by
  rw [muEnv_map, List.getElem?_map] at h
  cases q : ρ[i]? with
  | none => rw [q] at h; cases h
  | some s => rw [q] at h; cases h; exact ⟨s, rfl, rfl⟩
theorem Rl.junk {K : PySem.W.Frag} {ρ : Env'} {σ : L2.St} {F : Fz} {H : Hp} (r : Rl K ρ σ F H) : Rl K (muEnv ρ) σ F.junk H := by
  refine ⟨by rw [muEnv_map, List.length_map]; exact r.len, r.fh, fun i d h => ?_, fun i ds h => ?_, fun i C fs h => ?_, fun i kvs h => ?_, fun i j s t v h1 o1 h2 o2 h3 h4 => ?_⟩
  · obtain ⟨s, h1, h2⟩ := muEnv_get h
    cases s <;> cases h2
    obtain ⟨v, q1, q2⟩ := r.sh i _ h1
    exact ⟨v, q1, q2.junk⟩
  · obtain ⟨s, h1, h2⟩ := muEnv_get h
    cases s <;> cases h2
    obtain ⟨p, vs, q1, q2, q3, q4, q5⟩ := r.ow i _ h1
    exact ⟨p, vs, q1, q2, q3, q4, q5.junk⟩
  · obtain ⟨s, h1, h2⟩ := muEnv_get h
    cases s <;> cases h2
    obtain ⟨p, dx, vs, q1, q2, q3, q4, q5⟩ := r.oi i _ _ h1
    exact ⟨p, dx, vs, q1, q2, q3, q4.junk, q5⟩
  · obtain ⟨s, h1, h2⟩ := muEnv_get h
    cases s <;> cases h2
  · obtain ⟨s1, q1, e1⟩ := muEnv_get h1
    obtain ⟨s2, q2, e2⟩ := muEnv_get h2
    have w : ∀ {s : Sl}, (muSl s).own = true → s.own = true := fun {s} h => by cases s <;> first | rfl | cases h
    exact r.inj i j s1 s2 v q1 (w (by rw [← e1]; exact o1)) q2 (w (by rw [← e2]; exact o2)) h3 h4
theorem XP.junk {K : PySem.W.Frag} {W : WX} {σ : L2.St} {F : Fz} {H : Hp} {E : EQ} (x : XP K W σ F H E) : XP K W σ F.junk H (fun y => (∃ C, y = .ins C []) ∧ E y) := by
  rintro y cls dx F2 H' g r ⟨⟨C, rfl⟩, e⟩
  cases r with
  | bare => exact x _ _ _ _ _ g.since (.bare C) e
  | full h => exact absurd rfl h
section
variable {X : Cx} {W : WX} {e : Expr} {t : TD}
end
/-! ### what stays behind a change -/
def nmSl : Sl → Sl
  | .sh d => if d.noMu then .sh d else .no
  | .ow ds => if D.noMus ds then .ow ds else .no
  | .oi C fs => if D.noMuF fs then .oi C fs else .no
  | _ => .no
def nmEnv (js : List Nat) : Nat → Env' → Env'
  | _, [] => []
  | i, s :: ρ => (if i ∈ js then .no else nmSl s) :: nmEnv js (i + 1) ρ
theorem nmEnv_len (js : List Nat) : ∀ (i : Nat) (ρ : Env'), (nmEnv js i ρ).length = ρ.length
  | _, [] => rfl
  | i, s :: ρ => congrArg (· + 1) (nmEnv_len js (i + 1) ρ)
theorem nmEnv_get (js : List Nat) : ∀ (k : Nat) (ρ : Env') (i : Nat) (x : Sl), (nmEnv js k ρ)[i]? = some x → x ≠ .no → k + i ∉ js ∧ ∃ s, ρ[i]? = some s ∧ x = nmSl s
  | _, [], i, x, h, _ => by cases h
  | k, s :: ρ, 0, x, h, ne => by
    by_cases q : k ∈ js
    · have h : some (if k ∈ js then Sl.no else nmSl s) = some x := h
      rw [if_pos q] at h; cases h; exact absurd rfl ne
    · have h : some (if k ∈ js then Sl.no else nmSl s) = some x := h
      rw [if_neg q] at h; cases h
      exact ⟨q, s, rfl, rfl⟩
  | k, s :: ρ, i + 1, x, h, ne => by
    obtain ⟨h1, h2⟩ := nmEnv_get js (k + 1) ρ i x h ne
    exact ⟨by rw [show k + (i + 1) = k + 1 + i by omega]; exact h1, h2⟩
/-- only lists that may be changed have changed -/
structure Chg (F : Fz) (H H' : Hp) : Prop where
  keep : ∀ p o, H p = some o → F.j p ≠ .j → H' p = some o
def offJ (js : List Nat) (σ σ' : L2.St) : Prop := σ'.length = σ.length ∧ ∀ i, i ∉ js → σ'[i]? = σ[i]?
theorem Ent.chg {K : PySem.W.Frag} {F0 : Fz} {H0 : Hp} {ρ : Env'} {σ σ' : L2.St} {F : Fz} {H H' : Hp} (n0 : ∀ p, F0.j p ≠ .j) (e : Ent K F0 H0 ρ σ F H) (js : List Nat) (c : Chg F H H') (s : offJ js σ σ') : Ent K F0 H0 (nmEnv js 0 ρ) σ' F.safe H' := by
  have get : ∀ {i : Nat} {x : Sl}, (nmEnv js 0 ρ)[i]? = some x → x ≠ .no → ∃ s, ρ[i]? = some s ∧ x = nmSl s ∧ σ'[i]? = σ[i]? := fun {i x} h ne => by
    obtain ⟨h1, s', h2, h3⟩ := nmEnv_get js 0 ρ i x h ne
    rw [Nat.zero_add] at h1
    exact ⟨s', h2, h3, s.2 i h1⟩
  have nj : ∀ {p : Addr}, F.h p = none → F.j p ≠ .j := fun h => tg_aj (F.wf _ h)
  have sn : ∀ {p : Addr}, F.h p = none → F.safe.h p = none := fun h => by rw [F.safe_h (nj h)]; exact h
  have own : ∀ {x s : Sl}, x = nmSl s → x ≠ .no → x.own = true → s.own = true := fun {x s} h ne o => by
    subst h
    cases s with
    | sh d => unfold nmSl at o; dsimp only at o; split at o <;> cases o
    | ow ds => rfl
    | oi C fs => rfl
    | no => exact absurd rfl ne
    | od kvs => exact absurd rfl ne
  have h0 : ∀ {p : Addr} {o : HO}, H0 p = some o → F.j p ≠ .j := fun {p o} h q => by
    cases z : F0.h p with
    | none =>
      have := e.go.nn p z (by rw [h]; exact fun z => nomatch z)
      obtain ⟨vs, w⟩ := F.wl p q
      rw [this] at w; cases w
    | some u => exact n0 p ((e.go.ff.j p (by rw [z]; exact fun z => nomatch z)).symm.trans q)
  have fh : Same F.safe H' := fun b o h => by
    have hj : F.j b ≠ .j := fun q => by
      have h : F.sh b = some o := h
      unfold Fz.sh at h; rw [q] at h; cases h
    rw [F.safe_h hj] at h
    exact c.keep b o (e.rl.fh b o h) hj
  refine ⟨⟨by rw [nmEnv_len, e.rl.len]; exact s.1.symm, fh, fun i d h => ?_, fun i ds h => ?_, fun i C fs h => ?_, fun i kvs h => ?_, fun i j s1 s2 v h1 o1 h2 o2 h3 h4 => ?_⟩, ⟨⟨fun b o h => ?_, fun b h => ?_⟩, fun b o h => ?_, fh, fun b h1 h2 => sn (e.go.nn b h1 h2)⟩, fun i x p h o hs => ?_⟩
  · obtain ⟨s', h1, h2, h3⟩ := get h (fun z => nomatch z)
    cases s' with
    | sh d' =>
      unfold nmSl at h2; dsimp only at h2
      split at h2
      · rename_i hn
        cases h2
        obtain ⟨v, q1, q2⟩ := e.rl.sh i d h1
        exact ⟨v, by rw [h3]; exact q1, q2.safe hn⟩
      · cases h2
    | ow ds => unfold nmSl at h2; dsimp only at h2; split at h2 <;> cases h2
    | oi C fs => unfold nmSl at h2; dsimp only at h2; split at h2 <;> cases h2
    | no => cases h2
    | od kvs => cases h2
  · obtain ⟨s', h1, h2, h3⟩ := get h (fun z => nomatch z)
    cases s' with
    | sh d' => unfold nmSl at h2; dsimp only at h2; split at h2 <;> cases h2
    | ow ds' =>
      unfold nmSl at h2; dsimp only at h2
      split at h2
      · rename_i hn
        cases h2
        obtain ⟨p, vs, q1, q2, q3, q4, q5⟩ := e.rl.ow i ds h1
        exact ⟨p, vs, by rw [h3]; exact q1, c.keep p _ q2 (nj q3), sn q3, q4, q5.safe hn⟩
      · cases h2
    | oi C fs => unfold nmSl at h2; dsimp only at h2; split at h2 <;> cases h2
    | no => cases h2
    | od kvs => cases h2
  · obtain ⟨s', h1, h2, h3⟩ := get h (fun z => nomatch z)
    cases s' with
    | sh d' => unfold nmSl at h2; dsimp only at h2; split at h2 <;> cases h2
    | ow ds' => unfold nmSl at h2; dsimp only at h2; split at h2 <;> cases h2
    | oi C' fs' =>
      unfold nmSl at h2; dsimp only at h2
      split at h2
      · rename_i hn
        cases h2
        obtain ⟨p, dx, vs, q1, q2, q3, q4, q5⟩ := e.rl.oi i C fs h1
        exact ⟨p, dx, vs, by rw [h3]; exact q1, c.keep p _ q2 (nj q3), sn q3, q4.safe hn, q5⟩
      · cases h2
    | no => cases h2
    | od kvs => cases h2
  · obtain ⟨s', h1, h2, h3⟩ := get h (fun z => nomatch z)
    cases s' with
    | sh d' => unfold nmSl at h2; dsimp only at h2; split at h2 <;> cases h2
    | ow ds' => unfold nmSl at h2; dsimp only at h2; split at h2 <;> cases h2
    | oi C' fs' => unfold nmSl at h2; dsimp only at h2; split at h2 <;> cases h2
    | no => cases h2
    | od kvs => cases h2
  · have ne : ∀ {x : Sl}, x.own = true → x ≠ .no := fun h z => by subst z; cases h
    obtain ⟨t1, g1, g2, g3⟩ := get h1 (ne o1)
    obtain ⟨t2, k1, k2, k3⟩ := get h2 (ne o2)
    rw [g3] at h3
    rw [k3] at h4
    exact e.rl.inj i j t1 t2 v g1 (own g2 (ne o1) o1) k1 (own k2 (ne o2) o2) h3 h4
  · have hj := fun q => n0 b ((e.go.ff.j b (by rw [h]; exact fun z => nomatch z)).symm.trans q)
    rw [F.safe_h hj]
    exact e.go.ff.s b o h
  · have hj := fun q => n0 b ((e.go.ff.j b h).symm.trans q)
    rw [F.safe_j hj]
    exact e.go.ff.j b h
  · exact c.keep b o (e.go.hh b o h) (h0 h)
  · have ne : x ≠ .no := fun z => by subst z; cases o
    obtain ⟨t, g1, g2, g3⟩ := get h ne
    rw [g3] at hs
    exact e.new i t p g1 (own g2 ne o) hs
/-- statements, where nothing that was there ahead may be changed -/
structure RSj (X : Cx) (W : WX) (st : List Stmt) (t : DS) : Prop where
  run : ∃ ts, PSs X st ts ∧ ∀ (F0 : Fz) (H0 : Hp) (ρ : Env') (σ : L2.St) (F : Fz) (H : Hp) (D : Ends) (d : DE), (∀ p, F0.j p ≠ .j) → Ent X.K F0 H0 ρ σ F H → Cnt X.K W F0 H0 d D → t d ρ → ts D σ H
section
variable {X : Cx} {W : WX} {st : Stmt} {sts rest : List Stmt} {t u v : DS}
theorem RSs.j (h : RSs X W sts t) : RSj X W sts t := by
  obtain ⟨ts, h1, h2⟩ := h.run
  exact ⟨ts, h1, fun F0 H0 ρ σ F H D d _ e c q => h2 F0 H0 ρ σ F H D d e c q⟩
theorem rsj_cons (h : RS X W st u) (hr : RSj X W rest v) : RSj X W (st :: rest) (dSq u v) := by
  obtain ⟨t1, h1, h2⟩ := h.run
  obtain ⟨t2, a1, a2⟩ := hr.run
  exact ⟨_, pss_cons h1 a1, fun F0 H0 ρ σ F H D d n0 e c q => h2 F0 H0 ρ σ F H _ { d with nx := v d } e ⟨fun ρ σ F H e q => a2 F0 H0 ρ σ F H D d n0 e c q, c.rt, c.bk, c.ct, c.ex, c.rt1, c.rt2⟩ q⟩
/-- a statement that changes lists that may be changed, and no other -/
structure JB (X : Cx) (st : Stmt) (pre : Env' → Prop) (js : List Nat) : Prop where
  run : ∃ ts, PS X st ts ∧ ∀ (ρ : Env') (σ : L2.St) (F : Fz) (H : Hp) (D : Ends), Rl X.K ρ σ F H → pre ρ → (∀ σ' H', offJ js σ σ' → Chg F H H' → D.nx σ' H') → ts D σ H
def dJB (pre : Env' → Prop) (js : List Nat) : DS := fun d ρ => pre ρ ∧ d.nx (nmEnv js 0 ρ)
theorem rsj_jb {pre : Env' → Prop} {js : List Nat} (h : JB X st pre js) (hr : RSj X W rest v) : RSj X W (st :: rest) (dSq (dJB pre js) v) := by
  obtain ⟨t1, h1, h2⟩ := h.run
  obtain ⟨t2, a1, a2⟩ := hr.run
  refine ⟨_, pss_cons h1 a1, fun F0 H0 ρ σ F H D d n0 e c q => ?_⟩
  exact h2 ρ σ F H _ e.rl q.1 fun σ' H' so ch => a2 F0 H0 _ σ' _ H' D d n0 (e.chg n0 js ch so) c q.2
end
end Dl

/-! The D-layer, more: defs that change lists, two statements at once. -/
namespace Dl
open PySem PySem.Spec
open PyProof.Rows L2
/-- what was known ahead, and what has come since -/
def muOf (o : Option HO) (t : Tg) (o2 : Option HO) (t2 : Tg) : Tg := match o with
  | some _ => t
  | none => t2
def Fz.back (F F2 : Fz) : Hp := fun p => match F.h p with
  | some o => some o
  | none => F2.h p
theorem back_l (F F2 : Fz) (p : Addr) (h : muOf (F.h p) (F.j p) (F2.h p) (F2.j p) = .j) : ∃ vs, F.back F2 p = some (.lst vs) := by
  unfold Fz.back
  cases q : F.h p with
  | some o => rw [q] at h; obtain ⟨vs, z⟩ := F.wl p h; rw [q] at z; cases z; exact ⟨vs, rfl⟩
  | none => rw [q] at h; exact F2.wl p h
theorem back_f (F F2 : Fz) (p : Addr) (h : F.back F2 p = none) : muOf (F.h p) (F.j p) (F2.h p) (F2.j p) = .a := by
  unfold Fz.back at h
  cases q : F.h p with
  | some o => rw [q] at h; cases h
  | none => rw [q] at h; exact F2.wf p h
def Fz.bk (F F2 : Fz) : Fz := ⟨F.back F2, fun p => muOf (F.h p) (F.j p) (F2.h p) (F2.j p), back_l F F2, back_f F F2⟩
theorem bk_go {F F2 : Fz} {H H' : Hp} (e : Same F.h H) (g : Go F.safe H F2 H') : Go F H (F.bk F2) H' ∧ SameF F2 (F.bk F2) := by
  have hh : ∀ {p : Addr} {o : HO}, (F.bk F2).h p = some o → H' p = some o := fun {p o} h => by
    have h : F.back F2 p = some o := h
    unfold Fz.back at h
    cases q : F.h p with
    | some u => rw [q] at h; cases h; exact g.hh p _ (e p _ q)
    | none => rw [q] at h; exact g.fh p o h
  have old : ∀ {p : Addr}, F.h p ≠ none → (F.bk F2).h p = F.h p ∧ (F.bk F2).j p = F.j p := fun {p} h => by
    cases q : F.h p with
    | none => exact absurd q h
    | some o =>
      refine ⟨?_, ?_⟩
      · show F.back F2 p = _
        unfold Fz.back; rw [q]
      · show muOf (F.h p) (F.j p) (F2.h p) (F2.j p) = F.j p
        rw [q]; rfl
  have new : ∀ {p : Addr}, F.h p = none → (F.bk F2).h p = F2.h p ∧ (F.bk F2).j p = F2.j p := fun {p} h => by
    refine ⟨?_, ?_⟩
    · show F.back F2 p = _
      unfold Fz.back; rw [h]
    · show muOf (F.h p) (F.j p) (F2.h p) (F2.j p) = F2.j p
      rw [h]; rfl
  -- a place of F is one of F2 just where nobody may change it
  have both : ∀ {p : Addr}, F.h p ≠ none → F2.h p ≠ none → F2.h p = F.h p ∧ F2.j p = F.j p := fun {p} h h2 => by
    have hj : F.j p ≠ .j := fun q => by
      refine h2 (g.nn p ?_ ?_)
      · show F.sh p = none
        unfold Fz.sh; rw [q]
      · intro z
        cases w : F.h p with
        | none => exact h w
        | some o => rw [e p o w] at z; cases z
    cases w : F.h p with
    | none => exact absurd w h
    | some o =>
      have s1 : F.safe.h p = some o := by rw [F.safe_h hj]; exact w
      exact ⟨g.ff.s p o s1, (g.ff.j p (by rw [s1]; exact fun z => nomatch z)).trans (F.safe_j hj)⟩
  refine ⟨⟨⟨fun p o h => ?_, fun p h => (old h).2⟩, g.hh, fun p o h => hh h, fun p h1 h2 => ?_⟩, ⟨fun p o h => ?_, fun p h => ?_⟩⟩
  · rw [(old (by rw [h]; exact fun z => nomatch z)).1]; exact h
  · rw [(new h1).1]
    exact g.nn p (by rw [F.safe_h (tg_aj (F.wf p h1))]; exact h1) h2
  · cases q : F.h p with
    | none => rw [(new q).1]; exact h
    | some u =>
      have b := both (p := p) (by rw [q]; exact fun z => nomatch z) (by rw [h]; exact fun z => nomatch z)
      rw [(old (by rw [q]; exact fun z => nomatch z)).1, ← b.1]; exact h
  · cases q : F.h p with
    | none => exact (new q).2
    | some u =>
      have b := both (p := p) (by rw [q]; exact fun z => nomatch z) h
      rw [(old (by rw [q]; exact fun z => nomatch z)).2, b.2]
/-- a def that changes lists that it has made: its arguments have none that may be changed -/
theorem def_okJ {P : Program} {w : World} {K : PySem.W.Frag} {mg : Str → Option Value} {base : Heap} {name qual : Str} {st : Stmt} {f : Addr} {N ps : List Str} {k n : Nat} {G : DF} {tb : DS} {oc dV kV doc pm cdv ct : Value} {od an : Option Addr} {osl : Array (Option Value)}
    (lk : K.lookup f = some ⟨oc, od, .func (PySem.W.fnOf name qual (defArgs st) (defBody st) (defScope st) dV kV doc pm an cdv ct), osl⟩) (hcd : PySem.W.codeIn K cdv qual = true) (S : FnScope N ps (defScope st)) (hn : ps.length = n)
    (body : ∀ (cdv : Value) (A : Around) (outer : List Env) (s : Shared) (H : Hp) (E : XK), Room k (A.deeper (envOfC qual (defScope st) s.heap.objs.size f cdv)) → RSj (cxOf (L2.CX P w) P w K mg base N qual (defScope st) f cdv A outer s H E) (WF E) (defBody st) tb)
    (nm : ∀ ds Q E, G ds Q E → D.noMus ds = true)
    (read : ∀ ds Q E, ds.length = n → G ds Q E → tb (dE Q E) (startD N ds)) :
    FnOk P w K mg base (L2.CX P w) (k + 1) f (PySem.W.fnOf name qual (defArgs st) (defBody st) (defScope st) dV kV doc pm an cdv ct) ps (spD K n G) := by
  refine fn_of lk hcd S (fun vs H Q E h => ?_) fun A outer s H vs Q E hr h => ?_
  · obtain ⟨ds, F, Qd, Ed, _, r, hl, _⟩ := h
    rw [r.length, hl, hn]
  · obtain ⟨ts, h1, h2⟩ := (body cdv A outer s H E hr).run
    refine ⟨ts, h1, ?_⟩
    obtain ⟨ds, F1, Qd, Ed, sf, r, hl, g, k1, k2⟩ := h
    have r' := r.safe (nm ds Qd Ed g)
    have sf' : Same F1.safe H := F1.sh_same.trans sf
    have rl := start_rl (N := N) sf' r'
    have n0 : ∀ p, F1.safe.j p ≠ .j := fun p z => by
      have z : sfOf (F1.j p) = .j := z
      cases q : F1.j p <;> rw [q] at z <;> cases z
    have kk : ∀ x v F' H', Go F1.safe H F' H' → Rep K F' x v → Qd x → Q v H' := fun x v F' H' g r q => by
      obtain ⟨g1, g2⟩ := bk_go sf g
      exact k1 x v _ H' g1 (r.mono g2) q
    refine h2 F1.safe H (startD N ds) _ F1.safe H _ (dE Qd Ed) n0 ⟨rl, .refl sf', fun i s p h o hs => ?_⟩ ⟨fun ρ σ F' H' e q => kk _ _ F' H' e.go .non q, fun x v F' H' g r q => kk x v F' H' g r q, fun _ _ _ _ _ q => q.elim, fun _ _ _ _ _ q => q.elim, fun ρ σ F' H' e x cls dx F2 H2 g r q => ?_, fun _ _ _ _ _ _ q => q.elim, fun _ _ _ _ _ _ _ _ _ _ _ _ q => q.elim⟩ (read ds Qd Ed hl g)
    · exact absurd o (start_own h)
    · obtain ⟨g1, g2⟩ := bk_go sf (e.go.trans g)
      refine k2 x cls dx _ H2 g1 ?_ q
      cases r with
      | bare C => exact .bare C
      | full h1 h2 h3 => exact .full h1 h2 (h3.mono g2)
/-- two statements that change lists that may be changed, and no others -/
structure JB2 (X : Cx) (st st2 : Stmt) (pre : Env' → Prop) (js : List Nat) : Prop where
  run : ∃ ts ts2, PS X st ts ∧ PS X st2 ts2 ∧ ∀ (ρ : Env') (σ : L2.St) (F : Fz) (H : Hp) (D : Ends), Rl X.K ρ σ F H → pre ρ → (∀ σ' H', offJ js σ σ' → Chg F H H' → D.nx σ' H') → ts { D with nx := ts2 D } σ H
end Dl

/-! The D-layer, more: new lists that may be changed; what is read as if nothing could be changed. -/
namespace Dl
open PySem PySem.Spec
open PyProof.Rows L2
/-- frozen, and it may be changed one day -/
def Fz.updJ (F : Fz) (p : Addr) (vs : List V) : Fz := ⟨L2.upd F.h p (.lst vs), fun q => if q = p then .j else F.j q, fun q h => by
  by_cases z : q = p
  · subst z; exact ⟨vs, upd_same⟩
  · rw [if_neg z] at h; rw [upd_ne z]; exact F.wl q h, fun q h => by
  by_cases z : q = p
  · subst z; rw [upd_same] at h; cases h
  · rw [if_neg z]; rw [upd_ne z] at h; exact F.wf q h⟩
theorem Fz.updJ_h (F : Fz) (p : Addr) (vs : List V) : (F.updJ p vs).h = L2.upd F.h p (.lst vs) := rfl
theorem Fz.updJ_p (F : Fz) (p : Addr) (vs : List V) : (F.updJ p vs).j p = .j := by
  show (if p = p then Tg.j else F.j p) = .j
  rw [if_pos rfl]
theorem same_updJ {F : Fz} {p : Addr} {vs : List V} (h : F p = none) : SameF F (F.updJ p vs) := ⟨same_upd h, fun q hq => by
  show (if q = p then Tg.j else F.j q) = F.j q
  rw [if_neg (fun z => by subst z; exact hq h)]⟩
theorem Go.freezeJ {F : Fz} {H : Hp} {F' : Fz} {H' : Hp} {p : Addr} {vs : List V} (g : Go F H F' H') (np : H p = none) (hp : H' p = some (.lst vs)) (fp : F' p = none) : Go F H (F'.updJ p vs) H' := by
  refine ⟨g.ff.trans (same_updJ fp), g.hh, fun b u e => ?_, fun q h1 h2 => ?_⟩
  · rw [Fz.updJ_h] at e
    by_cases z : b = p
    · subst z; rw [upd_same] at e; cases e; exact hp
    · rw [upd_ne z] at e; exact g.fh _ _ e
  · rw [Fz.updJ_h, upd_ne (fun z => by rw [z] at h2; exact h2 np)]; exact g.nn q h1 h2
def dFzJ (t : TDs) : TD := fun ρ Q E => t ρ (fun ds => Q (.mu ds)) E
theorem RN.ej {X : Cx} {W : WX} {e : Expr} {t : TDs} (h : RN X W e t) : RE X W e (dFzJ t) := by
  obtain ⟨te, h1, h2⟩ := h.run
  refine ⟨te, h1, fun ρ σ F H Qd E Q rl xp kk q => h2 ρ σ F H _ E _ rl xp (fun ds p vs F' H' g np hp fp z r q1 => ?_) q⟩
  exact kk _ _ _ H' (g.freezeJ np hp fp) (.mu upd_same (F'.updJ_p p vs) z (r.mono (same_updJ fp))) q1
/-! ### every list as one that nobody changes -/
mutual
def D.toLst : D → D
  | .mu ds => .lst (D.toLsts ds)
  | .tup ds => .tup (D.toLsts ds)
  | .lst ds => .lst (D.toLsts ds)
  | .frl ds => .frl (D.toLsts ds)
  | .ins C fs => .ins C (D.toLstF fs)
  | .dic kvs => .dic (D.toLstK kvs)
  | d => d
def D.toLsts : List D → List D
  | [] => []
  | d :: ds => D.toLst d :: D.toLsts ds
def D.toLstF : List (Str × D) → List (Str × D)
  | [] => []
  | (f, d) :: ds => (f, D.toLst d) :: D.toLstF ds
def D.toLstK : List (Key × D) → List (Key × D)
  | [] => []
  | (f, d) :: ds => (f, D.toLst d) :: D.toLstK ds
end
mutual
theorem toLst_id : ∀ {d : D}, d.noMu = true → d.toLst = d
  | .non, _ => by unfold D.toLst; rfl
  | .bl _, _ => by unfold D.toLst; rfl
  | .int _, _ => by unfold D.toLst; rfl
  | .str _, _ => by unfold D.toLst; rfl
  | .ty _, _ => by unfold D.toLst; rfl
  | .cls _, _ => by unfold D.toLst; rfl
  | .ob _, _ => by unfold D.toLst; rfl
  | .mu _, h => by unfold D.noMu at h; cases h
  | .tup ds, h => by unfold D.toLst; rw [toLsts_id (by unfold D.noMu at h; exact h)]
  | .lst ds, h => by unfold D.toLst; rw [toLsts_id (by unfold D.noMu at h; exact h)]
  | .frl ds, h => by unfold D.toLst; rw [toLsts_id (by unfold D.noMu at h; exact h)]
  | .ins C fs, h => by unfold D.toLst; rw [toLstF_id (by unfold D.noMu at h; exact h)]
  | .dic kvs, h => by unfold D.toLst; rw [toLstK_id (by unfold D.noMu at h; exact h)]
theorem toLsts_id : ∀ {ds : List D}, D.noMus ds = true → D.toLsts ds = ds
  | [], _ => by unfold D.toLsts; rfl
  | d :: ds, h => by
    unfold D.noMus at h; rw [Bool.and_eq_true] at h
    unfold D.toLsts
    rw [toLst_id h.1, toLsts_id h.2]
theorem toLstF_id : ∀ {ds : List (Str × D)}, D.noMuF ds = true → D.toLstF ds = ds
  | [], _ => by unfold D.toLstF; rfl
  | (f, d) :: ds, h => by
    unfold D.noMuF at h; rw [Bool.and_eq_true] at h
    unfold D.toLstF
    rw [toLst_id h.1, toLstF_id h.2]
theorem toLstK_id : ∀ {ds : List (Key × D)}, D.noMuK ds = true → D.toLstK ds = ds
  | [], _ => by unfold D.toLstK; rfl
  | (f, d) :: ds, h => by
    unfold D.noMuK at h; rw [Bool.and_eq_true] at h
    unfold D.toLstK
    rw [toLst_id h.1, toLstK_id h.2]
end
theorem noMus_of : ∀ {ds : List D}, (∀ d ∈ ds, d.noMu = true) → D.noMus ds = true
  | [], _ => by unfold D.noMus; rfl
  | d :: ds, h => by
    unfold D.noMus
    rw [h d List.mem_cons_self, noMus_of fun e he => h e (List.mem_cons_of_mem _ he)]
    rfl
/-- a frozen heap whose lists nobody changes -/
theorem pl_l (F : Fz) (p : Addr) (h : sfOf (F.j p) = .j) : ∃ vs, F.h p = some (.lst vs) := by
  cases q : F.j p <;> rw [q] at h <;> cases h
theorem pl_f (F : Fz) (p : Addr) (h : F.h p = none) : sfOf (F.j p) = .a := by rw [F.wf p h]; rfl
def Fz.plain (F : Fz) : Fz := ⟨F.h, fun p => sfOf (F.j p), pl_l F, pl_f F⟩
theorem Fz.plain_kh (F : Fz) : Same F.kh F.plain.kh := fun p o e => by
  obtain ⟨q, e⟩ := F.kh_inv e
  rw [F.plain.kh_of (show sfOf (F.j p) = .k by rw [q]; rfl)]
  exact e
section
variable {K : PySem.W.Frag} {F : Fz}
mutual
theorem Rep.plain : ∀ {d : D} {v : V}, Rep K F d v → Rep K F.plain d.toLst v
  | _, _, .non => by unfold D.toLst; exact .non
  | _, _, .bl b => by unfold D.toLst; exact .bl b
  | _, _, .int i => by unfold D.toLst; exact .int i
  | _, _, .str x => by unfold D.toLst; exact .str x
  | _, _, .ty n => by unfold D.toLst; exact .ty n
  | _, _, .cls C => by unfold D.toLst; exact .cls C
  | _, _, .ob v => by unfold D.toLst; exact .ob v
  | _, _, .tup s l r => by unfold D.toLst; exact .tup s l (Reps.plain r)
  | _, _, .lst s q l r => by unfold D.toLst; exact .lst s (by show sfOf (F.j _) = .a; rw [q]; rfl) l (Reps.plain r)
  | _, _, .mu s q l r => by unfold D.toLst; exact .lst s (by show sfOf (F.j _) = .a; rw [q]; rfl) l (Reps.plain r)
  | _, _, .frl s l r => by unfold D.toLst; exact .frl (same_seqL F.plain_kh s) l (Reps.plain r)
  | _, _, .ins s r => by unfold D.toLst; exact .ins s (RepF.plain r)
  | _, _, .dic s r => by unfold D.toLst; exact .dic s (RepK.plain r)
theorem Reps.plain : ∀ {d : List D} {v : List V}, Reps K F d v → Reps K F.plain (D.toLsts d) v
  | _, _, .nil => by unfold D.toLsts; exact .nil
  | _, _, .cons r s => by unfold D.toLsts; exact .cons (Rep.plain r) (Reps.plain s)
theorem RepF.plain : ∀ {d : List (Str × D)} {v : List (Str × V)}, RepF K F d v → RepF K F.plain (D.toLstF d) v
  | _, _, .nil => by unfold D.toLstF; exact .nil
  | _, _, .cons r s => by unfold D.toLstF; exact .cons (Rep.plain r) (RepF.plain s)
theorem RepK.plain : ∀ {d : List (Key × D)} {v : List (Key × V)}, RepK K F d v → RepK K F.plain (D.toLstK d) v
  | _, _, .nil => by unfold D.toLstK; exact .nil
  | _, _, .cons r s => by unfold D.toLstK; exact .cons (Rep.plain r) (RepK.plain s)
end
end
/-- and back: what it was, and what has come since -/
theorem kp_l (F F2 : Fz) (e : Same F.h F2.h) (p : Addr) (h : muOf (F.h p) (F.j p) (F2.h p) (F2.j p) = .j) : ∃ vs, F2.h p = some (.lst vs) := by
  cases q : F.h p with
  | some o => rw [q] at h; obtain ⟨vs, z⟩ := F.wl p h; exact ⟨vs, e _ _ z⟩
  | none => rw [q] at h; exact F2.wl p h
theorem kp_f (F F2 : Fz) (e : Same F.h F2.h) (p : Addr) (h : F2.h p = none) : muOf (F.h p) (F.j p) (F2.h p) (F2.j p) = .a := by
  rw [e.free h]; exact F2.wf p h
def Fz.kept (F F2 : Fz) (e : Same F.h F2.h) : Fz := ⟨F2.h, fun p => muOf (F.h p) (F.j p) (F2.h p) (F2.j p), kp_l F F2 e, kp_f F F2 e⟩
theorem plain_s {F F2 : Fz} (f : SameF F.plain F2) : Same F.h F2.h := f.s
theorem Go.kept {F F2 : Fz} {H H' : Hp} (g : Go F.plain H F2 H') : Go F H (F.kept F2 (plain_s g.ff)) H' :=
  ⟨⟨(plain_s g.ff : Same F.h F2.h), fun p h => by
    show muOf (F.h p) (F.j p) (F2.h p) (F2.j p) = F.j p
    cases q : F.h p with
    | none => exact absurd q h
    | some o => rfl⟩, g.hh, g.fh, g.nn⟩
section
variable {K : PySem.W.Frag} {F F2 : Fz} {e : Same F.h F2.h}
mutual
theorem Rep.kept : ∀ {d : D} {v : V}, d.tupy = true → Rep K F2 d v → Rep K (F.kept F2 e) d v
  | _, _, _, .non => .non
  | _, _, _, .bl b => .bl b
  | _, _, _, .int i => .int i
  | _, _, _, .str x => .str x
  | _, _, h, .tup s l r => .tup s l (Reps.kept (by unfold D.tupy at h; exact h) r)
  | _, _, h, .ty _ => by unfold D.tupy at h; cases h
  | _, _, h, .cls _ => by unfold D.tupy at h; cases h
  | _, _, h, .ob _ => by unfold D.tupy at h; cases h
  | _, _, h, .lst .. => by unfold D.tupy at h; cases h
  | _, _, h, .mu .. => by unfold D.tupy at h; cases h
  | _, _, h, .frl .. => by unfold D.tupy at h; cases h
  | _, _, h, .ins .. => by unfold D.tupy at h; cases h
  | _, _, h, .dic .. => by unfold D.tupy at h; cases h
theorem Reps.kept : ∀ {d : List D} {v : List V}, D.tupys d = true → Reps K F2 d v → Reps K (F.kept F2 e) d v
  | _, _, _, .nil => .nil
  | _, _, h, .cons r s => by
    unfold D.tupys at h; rw [Bool.and_eq_true] at h
    exact .cons (Rep.kept h.1 r) (Reps.kept h.2 s)
end
end
/-! ### names, seen so -/
def lsSl : Sl → Sl
  | .sh d => .sh d.toLst
  | .ow ds => .ow (D.toLsts ds)
  | .oi C fs => .oi C (D.toLstF fs)
  | .od _ => .no
  | .no => .no
def lsEnv : Env' → Env'
  | [] => []
  | s :: ρ => lsSl s :: lsEnv ρ
theorem lsEnv_map : ∀ ρ : Env', lsEnv ρ = ρ.map lsSl
  | [] => rfl
  | s :: ρ => congrArg (lsSl s :: ·) (lsEnv_map ρ)
theorem lsEnv_get {ρ : Env'} {i : Nat} {x : Sl} (h : (lsEnv ρ)[i]? = some x) : ∃ s, ρ[i]? = some s ∧ x = lsSl s := by
  rw [lsEnv_map, List.getElem?_map] at h
  cases q : ρ[i]? with
  | none => rw [q] at h; cases h
  | some s => rw [q] at h; cases h; exact ⟨s, rfl, rfl⟩
theorem Rl.plain {K : PySem.W.Frag} {ρ : Env'} {σ : L2.St} {F : Fz} {H : Hp} (r : Rl K ρ σ F H) : Rl K (lsEnv ρ) σ F.plain H := by
  refine ⟨by rw [lsEnv_map, List.length_map]; exact r.len, r.fh, fun i d h => ?_, fun i ds h => ?_, fun i C fs h => ?_, fun i kvs h => ?_, fun i j s t v h1 o1 h2 o2 h3 h4 => ?_⟩
  · obtain ⟨s, h1, h2⟩ := lsEnv_get h
    cases s <;> cases h2
    obtain ⟨v, q1, q2⟩ := r.sh i _ h1
    exact ⟨v, q1, q2.plain⟩
  · obtain ⟨s, h1, h2⟩ := lsEnv_get h
    cases s <;> cases h2
    obtain ⟨p, vs, q1, q2, q3, q4, q5⟩ := r.ow i _ h1
    exact ⟨p, vs, q1, q2, q3, q4, q5.plain⟩
  · obtain ⟨s, h1, h2⟩ := lsEnv_get h
    cases s <;> cases h2
    obtain ⟨p, dx, vs, q1, q2, q3, q4, q5⟩ := r.oi i _ _ h1
    exact ⟨p, dx, vs, q1, q2, q3, q4.plain, q5⟩
  · obtain ⟨s, h1, h2⟩ := lsEnv_get h
    cases s <;> cases h2
  · obtain ⟨s1, q1, e1⟩ := lsEnv_get h1
    obtain ⟨s2, q2, e2⟩ := lsEnv_get h2
    have w : ∀ {s : Sl}, (lsSl s).own = true → s.own = true := fun {s} h => by cases s <;> first | rfl | cases h
    exact r.inj i j s1 s2 v q1 (w (by rw [← e1]; exact o1)) q2 (w (by rw [← e2]; exact o2)) h3 h4
theorem XP.plain {K : PySem.W.Frag} {W : WX} {σ : L2.St} {F : Fz} {H : Hp} {E : EQ} (x : XP K W σ F H E) : XP K W σ F.plain H (fun y => (∃ C, y = .ins C []) ∧ E y) := by
  rintro y cls dx F2 H' g r ⟨⟨C, rfl⟩, e⟩
  cases r with
  | bare => exact x _ _ _ _ _ g.kept (.bare C) e
  | full h => exact absurd rfl h
section
variable {X : Cx} {W : WX} {e : Expr} {t : TD} {ts : TDs} {tb : TDb}
end
end Dl

/-! The D-layer, more: new lists that may be changed, told by a comprehension; a loop that puts something behind each of some lists. -/
namespace Dl
open PySem PySem.Spec
open PyProof.Rows L2
section
variable {X : Cx} {W : WX} {e : Expr} {t : TD}
/-! ### for x in [..]: x.append(c) -/
end
end Dl

/-! The D-layer, more: a list of lists of one's own: loops that change each of them. -/
namespace Dl
open PySem PySem.Spec
open PyProof.Rows L2
/-- the rows: lists that nobody else knows -/
structure Rws (K : PySem.W.Frag) (H0 : Hp) (ps : List Addr) (R : List (List D)) (F : Fz) (H : Hp) : Prop where
  nd : ps.Nodup
  len : ps.length = R.length
  h0 : ∀ p ∈ ps, H0 p = none
  fp : ∀ p ∈ ps, F p = none
  at_ : ∀ (k : Nat) (p : Addr) (ds : List D), ps[k]? = some p → R[k]? = some ds → ∃ vs, H p = some (.lst vs) ∧ vs.length ≤ sizeLine ∧ Reps K F ds vs
structure EntR (K : PySem.W.Frag) (F0 : Fz) (H0 : Hp) (ρ : Env') (σ : L2.St) (F : Fz) (H : Hp) (ps : List Addr) (R : List (List D)) : Prop where
  en : Ent K F0 H0 ρ σ F H
  rw : Rws K H0 ps R F H
  out : ∀ (i : Nat) (s : Sl) (p : Addr), ρ[i]? = some s → s.own = true → σ[i]? = some (some (.ref p)) → p ∉ ps
section
variable {K : PySem.W.Frag} {F0 : Fz} {H0 : Hp} {ρ : Env'} {σ : L2.St} {F : Fz} {H : Hp} {ps : List Addr} {R : List (List D)}
theorem Rws.row (w : Rws K H0 ps R F H) {p : Addr} (h : p ∈ ps) : ∃ (k : Nat) (ds : List D) (vs : List V), ps[k]? = some p ∧ R[k]? = some ds ∧ H p = some (.lst vs) := by
  obtain ⟨k, hk⟩ := List.getElem?_of_mem h
  have kl : k < R.length := by rw [← w.len]; exact (List.getElem?_eq_some_iff.mp hk).1
  obtain ⟨vs, h1, _⟩ := w.at_ k p _ hk (List.getElem?_eq_getElem kl)
  exact ⟨k, _, vs, hk, List.getElem?_eq_getElem kl, h1⟩
theorem Rws.go (w : Rws K H0 ps R F H) {F' : Fz} {H' : Hp} (g : Go F H F' H') : Rws K H0 ps R F' H' :=
  ⟨w.nd, w.len, w.h0, fun p h => by
    obtain ⟨_, _, vs, _, _, e⟩ := w.row h
    exact g.nn p (w.fp p h) (by rw [e]; exact fun z => nomatch z), fun k p ds h1 h2 => by
    obtain ⟨vs, e1, e2, e3⟩ := w.at_ k p ds h1 h2
    exact ⟨vs, g.hh _ _ e1, e2, e3.mono g.ff⟩⟩
theorem EntR.step (e : EntR K F0 H0 ρ σ F H ps R) {F' : Fz} {H' : Hp} (g : Go F H F' H') : EntR K F0 H0 ρ σ F' H' ps R := ⟨e.en.step g, e.rw.go g, e.out⟩
/-- what was there ahead, and the rows -/
def hxt (H0 : Hp) (ps : List Addr) (H : Hp) : Hp := fun p => if p ∈ ps then H p else H0 p
theorem hxt_in {p : Addr} (h : p ∈ ps) : hxt H0 ps H p = H p := if_pos h
theorem hxt_out {p : Addr} (h : p ∉ ps) : hxt H0 ps H p = H0 p := if_neg h
theorem EntR.up (e : EntR K F0 H0 ρ σ F H ps R) : Ent K F (hxt H0 ps H) ρ σ F H := by
  refine ⟨e.en.rl, ⟨SameF.refl _, fun b o h => ?_, e.en.go.fh, fun p h _ => h⟩, fun i s p h o hs => ?_⟩
  · by_cases q : b ∈ ps
    · rw [hxt_in q] at h; exact h
    · rw [hxt_out q] at h; exact e.en.go.hh b o h
  · rw [hxt_out (e.out i s p h o hs)]
    exact e.en.new i s p h o hs
end
/-- what is wanted behind, by trees and rows -/
structure DEr where
  nx : Env' → List (List D) → Prop
  ex : Env' → EQ
abbrev DSr := List Addr → DEr → Env' → List (List D) → Prop
structure CntR (K : PySem.W.Frag) (W : WX) (F0 : Fz) (H0 : Hp) (ps : List Addr) (d : DEr) (D : Ends) : Prop where
  nx : ∀ ρ σ F H R, EntR K F0 H0 ρ σ F H ps R → d.nx ρ R → D.nx σ H
  ex : ∀ ρ σ F H R, EntR K F0 H0 ρ σ F H ps R → XP K W σ F H (d.ex ρ)
structure RR (X : Cx) (W : WX) (st : Stmt) (t : DSr) : Prop where
  run : ∃ ts, PS X st ts ∧ ∀ (F0 : Fz) (H0 : Hp) (ρ : Env') (σ : L2.St) (F : Fz) (H : Hp) (D : Ends) (d : DEr) (ps : List Addr) (R : List (List Dl.D)), EntR X.K F0 H0 ρ σ F H ps R → CntR X.K W F0 H0 ps d D → t ps d ρ R → ts D σ H
structure RRs (X : Cx) (W : WX) (st : List Stmt) (t : DSr) : Prop where
  run : ∃ ts, PSs X st ts ∧ ∀ (F0 : Fz) (H0 : Hp) (ρ : Env') (σ : L2.St) (F : Fz) (H : Hp) (D : Ends) (d : DEr) (ps : List Addr) (R : List (List Dl.D)), EntR X.K F0 H0 ρ σ F H ps R → CntR X.K W F0 H0 ps d D → t ps d ρ R → ts D σ H
section
variable {X : Cx} {W : WX} {st : Stmt} {rest : List Stmt} {e a : Expr} {u v : DSr} {pos : Pos}
/-! ### for, the rows changed in each turn -/
def loopG (g : DG) (tb : DSr) (ps : List Addr) (d : DEr) : List D → Env' → List (List D) → Prop
  | [], ρ, R => d.nx ρ R
  | x :: xs, ρ, R => g x ρ fun ρ2 => tb ps { d with nx := loopG g tb ps d xs } ρ2 R
structure loopH (g : DG) (tb : DSr) (ps : List Addr) (d : DEr) (xs : List D) (ρ : Env') (R : List (List D)) : Prop where
  out : loopG g tb ps d xs ρ R
end
end Dl

/-! The D-layer, more: for row in rows: row[i] = e; from lists that may be changed to rows of one's own, and back. -/
namespace Dl
open PySem PySem.Spec
open PyProof.Rows L2
section
variable {K : PySem.W.Frag} {F0 : Fz} {H0 : Hp} {ρ : Env'} {σ : L2.St} {F : Fz} {H : Hp} {ps : List Addr} {R : List (List D)}
theorem set_ne_get {α : Type} {l : List α} {i : Nat} {x y : α} (h : (l.set i x)[i]? = some y) : y = x := by
  by_cases hl : i < l.length
  · rw [List.getElem?_set_self hl] at h; exact (Option.some.inj h).symm
  · rw [List.getElem?_eq_none (by rw [List.length_set]; omega)] at h; cases h
/-- a row changed -/
theorem EntR.put (e : EntR K F0 H0 ρ σ F H ps R) {k : Nat} {p : Addr} {es : List D} {ws : List V} (hk : ps[k]? = some p) (z : ws.length ≤ sizeLine) (r : Reps K F es ws) : EntR K F0 H0 ρ σ F (L2.upd H p (.lst ws)) ps (R.set k es) := by
  have pin := List.mem_of_getElem? hk
  have fp := e.rw.fp p pin
  have h0 := e.rw.h0 p pin
  have sm : ∀ {A : Hp}, A p = none → Same A H → Same A (L2.upd H p (.lst ws)) := fun n s b u q => by
    rw [upd_ne (ne_of_none q n)]; exact s b u q
  have np : ∀ {i : Nat} {s : Sl} {q : Addr}, ρ[i]? = some s → s.own = true → σ[i]? = some (some (.ref q)) → q ≠ p := fun h o hs z => e.out _ _ _ h o hs (by rw [z]; exact pin)
  refine ⟨⟨⟨e.en.rl.len, sm fp e.en.rl.fh, e.en.rl.sh, fun i ds h => ?_, fun i C fs h => ?_, fun i kvs h => ?_, e.en.rl.inj⟩, ⟨e.en.go.ff, sm h0 e.en.go.hh, sm fp e.en.rl.fh, e.en.go.nn⟩, e.en.new⟩, ⟨e.rw.nd, by rw [List.length_set]; exact e.rw.len, e.rw.h0, e.rw.fp, fun j q ds h1 h2 => ?_⟩, e.out⟩
  · obtain ⟨q, us, g1, g2, g3⟩ := e.en.rl.ow i ds h
    exact ⟨q, us, g1, by rw [upd_ne (np h rfl g1)]; exact g2, g3⟩
  · obtain ⟨q, dx, us, g1, g2, g3⟩ := e.en.rl.oi i C fs h
    exact ⟨q, dx, us, g1, by rw [upd_ne (np h rfl g1)]; exact g2, g3⟩
  · obtain ⟨q, us, g1, g2, g3⟩ := e.en.rl.od i kvs h
    exact ⟨q, us, g1, by rw [upd_ne (np h rfl g1)]; exact g2, g3⟩
  · by_cases hj : k = j
    · subst hj
      rw [hk] at h1
      cases h1
      have := set_ne_get h2
      subst this
      exact ⟨ws, upd_same, z, r⟩
    · rw [List.getElem?_set_ne hj] at h2
      have : q ≠ p := fun w => by
        subst w
        exact hj ((List.getElem?_inj (List.getElem?_eq_some_iff.mp hk).1 e.rw.nd).mp (hk.trans h1.symm))
      rw [upd_ne this]
      exact e.rw.at_ j q ds h1 h2
end
section
variable {X : Cx} {W : WX} {a e : Expr} {ta t : TD}
end
end Dl

/-! The D-layer, more: lists that may be changed become rows of one's own; behind the loops they are frozen. -/
namespace Dl
open PySem PySem.Spec
open PyProof.Rows L2
section
variable {X : Cx} {W : WX} {st : Stmt} {rest : List Stmt} {u : DSr} {v : DS}
end
end Dl

/-! The D-layer, more: True not in a list of truths. -/
namespace Dl
open PySem PySem.Spec
open PyProof.Rows L2
end Dl

/-! The D-layer, more: a def that changes a list of the caller's. -/
namespace Dl
open PySem PySem.Spec
open PyProof.Rows L2
/-- behind a call that may have changed the lists that may be changed -/
structure GoC (F : Fz) (H : Hp) (F' : Fz) (H' : Hp) : Prop where
  ff : SameF F.safe F'
  ch : Chg F H H'
  fh : Same F' H'
  nn : ∀ p, F.h p = none → H p ≠ none → F'.h p = none
def spDC (K : PySem.W.Frag) (n : Nat) (G : DF) : Sp := fun vs H Q E => ∃ (ds : List D) (F : Fz) (Qd Ed : EQ), Same F H ∧ Reps K F ds vs ∧ ds.length = n ∧ G ds Qd Ed ∧
  (∀ d v F' H', GoC F H F' H' → Rep K F' d v → Qd d → Q v H') ∧ (∀ x, ¬ Ed x)
structure FDC (P : Program) (w : World) (K : PySem.W.Frag) (mg : Str → Option Value) (base : Heap) (k : Nat) (f : Addr) (n : Nat) (G : DF) : Prop where
  ok : ∃ (fd : FuncData) (ps : List Str), FnOk P w K mg base (L2.CX P w) k f fd ps (spDC K n G) ∧ Binds K fd ps []
  kp : PySem.W.keepIn K (.ref f) = true
section
variable {X : Cx} {W : WX} {st : Stmt} {sts rest : List Stmt} {t u v : DS} {a e : Expr} {ta te : TD} {pos : Pos}
end
end Dl

/-! The D-layer, more: a def that puts lists behind a list of its caller's, called within an expression; what that list holds stays known. -/
namespace Dl
open PySem PySem.Spec
open PyProof.Rows L2
theorem safe_noj (F : Fz) (p : Addr) : F.safe.j p ≠ .j := fun z => by
  have z : sfOf (F.j p) = .j := z
  cases q : F.j p <;> rw [q] at z <;> cases z
/-- what is frozen for good, and some lists that may be changed -/
def Fz.keep (F : Fz) (ks : List Addr) (H : Hp) (hk : ∀ q ∈ ks, ∃ vs, H q = some (.lst vs)) : Fz := ⟨fun q => if q ∈ ks then H q else F.safe.h q, fun q => if q ∈ ks then .j else F.safe.j q, fun p h => by
  by_cases z : p ∈ ks
  · rw [if_pos z]; exact hk p z
  · rw [if_neg z] at h; exact absurd h (safe_noj F p), fun p h => by
  by_cases z : p ∈ ks
  · rw [if_pos z] at h
    obtain ⟨vs, w⟩ := hk p z
    rw [w] at h; cases h
  · rw [if_neg z] at h ⊢; exact F.safe.wf p h⟩
/-! ### lists of lists of ints -/
/-! ### expressions in which such a list is changed -/
structure REC (X : Cx) (W : WX) (e : Expr) (t : Env' → (D → Env' → Prop) → Prop) : Prop where
  run : ∃ te, PE X e te ∧ ∀ (F0 : Fz) (H0 : Hp) (ρ : Env') (σ : L2.St) (F : Fz) (H : Hp) (k : D → Env' → Prop) (Q : VK), (∀ p, F0.j p ≠ .j) → Ent X.K F0 H0 ρ σ F H →
    (∀ d v ρ' F' H', Ent X.K F0 H0 ρ' σ F' H' → SameF F.safe F' → d.noMu = true → Rep X.K F' d v → k d ρ' → Q v H') → t ρ k → te σ H Q
structure RAC (X : Cx) (W : WX) (es : List Expr) (t : Env' → (List D → Env' → Prop) → Prop) : Prop where
  run : ∃ ta, PA X es ta ∧ ∀ (F0 : Fz) (H0 : Hp) (ρ : Env') (σ : L2.St) (F : Fz) (H : Hp) (k : List D → Env' → Prop) (Q : List V → Hp → Prop), (∀ p, F0.j p ≠ .j) → Ent X.K F0 H0 ρ σ F H →
    (∀ ds vs ρ' F' H', Ent X.K F0 H0 ρ' σ F' H' → SameF F.safe F' → Reps X.K F' ds vs → k ds ρ' → Q vs H') → t ρ k → ta σ H Q
/-- promises of a def that puts lists behind a list of its caller's -/
abbrev DFIO := List D → (D → List D → Prop) → Prop
def spIO (K : PySem.W.Frag) (n iL : Nat) (G : DFIO) : Sp := fun vs H Q _ => ∃ (ds : List D) (F : Fz) (Qd : D → List D → Prop) (p : Addr), Same F H ∧ Reps K F ds vs ∧ ds.length = n ∧ vs[iL]? = some (.ref p) ∧ G ds Qd ∧
  (∀ d es v F' H', GoC F H F' H' → d.noMu = true → Rep K F' d v → Rep K F' (.mu es) (.ref p) → Qd d es → Q v H')
structure FIO (P : Program) (w : World) (K : PySem.W.Frag) (mg : Str → Option Value) (base : Heap) (k : Nat) (f : Addr) (n iL : Nat) (G : DFIO) : Prop where
  ok : ∃ (fd : FuncData) (ps : List Str), FnOk P w K mg base (L2.CX P w) k f fd ps (spIO K n iL G) ∧ Binds K fd ps []
  kp : PySem.W.keepIn K (.ref f) = true
section
variable {X : Cx} {W : WX} {st : Stmt} {sts rest : List Stmt} {t u v : DS} {e e2 : Expr} {es : List Expr} {te : TD} {pos : Pos}
/-! ### the def's statements -/
structure RSc (X : Cx) (W : WX) (iL : Nat) (st : List Stmt) (t : (D → List D → Prop) → DS) : Prop where
  run : ∃ ts, PSs X st ts ∧ ∀ (F0 : Fz) (H0 : Hp) (ρ : Env') (σ : L2.St) (F : Fz) (H : Hp) (D : Ends) (d : DE) (rc : Dl.D → List Dl.D → Prop) (p : Addr), (∀ p, F0.j p ≠ .j) → Ent X.K F0 H0 ρ σ F H → (∀ ρ σ F H, Ent X.K F0 H0 ρ σ F H → XP X.K W σ F H (d.ex ρ)) → σ[iL]? = some (some (.ref p)) →
    (∀ x v es F' H', Go F0 H0 F' H' → x.noMu = true → Rep X.K F' x v → Rep X.K F' (.mu es) (.ref p) → rc x es → D.rt v H') → t rc d ρ → ts D σ H
end
end Dl

/-! The D-layer, more: for x in L: x[0] = .., L a list of lists of ints that stay known. -/
namespace Dl
open PySem PySem.Spec
open PyProof.Rows L2
section
variable {X : Cx} {W : WX} {rest : List Stmt} {v : DS} {a e : Expr} {ta te : TD}
/-! ### for, lists being changed in its suite -/
structure RIS (X : Cx) (W : WX) (tg iter : Expr) (t : TDs) : Prop where
  run : ∃ wi, PI X tg iter wi ∧ ∀ (ρ : Env') (σ : L2.St) (F : Fz) (H : Hp) (Qd : List D → Prop) (E : EQ) (R : It → Hp → Prop), Rl X.K ρ σ F H → XP X.K W σ F H E →
    (∀ ds J F' H', Go F H F' H' → JW X.K F'.safe J ds → ds.length ≤ sizeLine → Qd ds → R J H') → t ρ Qd E → wi σ H R
end
end Dl

/-! The D-layer, more: lists that are spoilt: what stays true of them at any time. -/
namespace Dl
open PySem PySem.Spec
open PyProof.Rows L2
/-- what lies at a place: something that stays, a list of lists, a list, something that came later -/
inductive Cl where
  | k | a | o | n
def ElS (cls : Addr → Cl) (B : Nat) (H : Hp) (v : V) : Prop := ∃ (q : Addr) (ys : List V), v = .ref q ∧ (cls q = .o ∨ cls q = .n) ∧ H q = some (.lst ys) ∧ ys.length ≤ B
structure IvS (cls : Addr → Cl) (b B : Nat) (H : Hp) : Prop where
  fr : ∀ q, H q = none → cls q = .n
  as : ∀ p, cls p = .a → ∃ ys, H p = some (.lst ys) ∧ ys.length ≤ b ∧ ∀ v ∈ ys, ElS cls B H v
  os : ∀ p, cls p = .o → ∃ ys, H p = some (.lst ys) ∧ ys.length ≤ B
def KpS (cls : Addr → Cl) (H H' : Hp) : Prop := (∀ p o, H p = some o → cls p = .k → H' p = some o) ∧ ∀ p, H' p = none → H p = none
theorem KpS.refl {cls : Addr → Cl} {H : Hp} : KpS cls H H := ⟨fun _ _ e _ => e, fun _ e => e⟩
theorem KpS.trans {cls : Addr → Cl} {H H1 H2 : Hp} (a : KpS cls H H1) (b : KpS cls H1 H2) : KpS cls H H2 := ⟨fun p o e c => b.1 p o (a.1 p o e c) c, fun p e => a.2 p (b.2 p e)⟩
theorem KpS.upd {cls : Addr → Cl} {H : Hp} {p : Addr} {o : HO} (h : cls p ≠ .k) : KpS cls H (L2.upd H p o) := ⟨fun q u e c => by
  rw [upd_ne (fun z => by rw [z] at c; exact h c)]; exact e, fun q e => by
  by_cases z : q = p
  · rw [z, upd_same] at e; cases e
  · rw [upd_ne z] at e; exact e⟩
theorem ElS.mono {cls : Addr → Cl} {B C : Nat} {H : Hp} {v : V} (h : ElS cls B H v) (l : B ≤ C) : ElS cls C H v := by
  obtain ⟨q, ys, e, c, hq, z⟩ := h
  exact ⟨q, ys, e, c, hq, Nat.le_trans z l⟩
theorem IvS.mono {cls : Addr → Cl} {b c B C : Nat} {H : Hp} (h : IvS cls b B H) (l : b ≤ c) (m : B ≤ C) : IvS cls c C H := ⟨h.fr, fun p e => by
  obtain ⟨ys, h1, h2, h3⟩ := h.as p e
  exact ⟨ys, h1, Nat.le_trans h2 l, fun v hv => (h3 v hv).mono m⟩, fun p e => by
  obtain ⟨ys, h1, h2⟩ := h.os p e
  exact ⟨ys, h1, Nat.le_trans h2 m⟩⟩
theorem cl_ao {c : Cl} (h : c = .a) (g : c = .o ∨ c = .n) : False := by
  rcases g with g | g <;> rw [h] at g <;> cases g
/-- something put behind a list -/
theorem IvS.app {cls : Addr → Cl} {b B : Nat} {H : Hp} (h : IvS cls b B H) {p : Addr} {ys : List V} {x : V} (hc : cls p = .o ∨ cls p = .n) (hp : H p = some (.lst ys)) (hl : ys.length ≤ B) : IvS cls b (B + 1) (L2.upd H p (.lst (ys ++ [x]))) := by
  have el : ∀ {v : V}, ElS cls B H v → ElS cls (B + 1) (L2.upd H p (.lst (ys ++ [x]))) v := fun {v} h => by
    obtain ⟨q, zs, e, c, hq, z⟩ := h
    by_cases w : q = p
    · subst w
      exact ⟨q, _, e, c, upd_same, by rw [List.length_append]; exact Nat.add_le_add_right hl 1⟩
    · exact ⟨q, zs, e, c, by rw [upd_ne w]; exact hq, by omega⟩
  refine ⟨fun q e => ?_, fun q e => ?_, fun q e => ?_⟩
  · by_cases w : q = p
    · rw [w, upd_same] at e; cases e
    · rw [upd_ne w] at e; exact h.fr q e
  · obtain ⟨zs, h1, h2, h3⟩ := h.as q e
    have w : q ≠ p := fun w => by subst w; exact cl_ao e hc
    exact ⟨zs, by rw [upd_ne w]; exact h1, h2, fun v hv => el (h3 v hv)⟩
  · obtain ⟨zs, h1, h2⟩ := h.os q e
    by_cases w : q = p
    · subst w
      exact ⟨_, upd_same, by rw [List.length_append]; exact Nat.add_le_add_right hl 1⟩
    · exact ⟨zs, by rw [upd_ne w]; exact h1, by omega⟩
/-- a list of lists told anew -/
theorem IvS.put {cls : Addr → Cl} {b c B : Nat} {H : Hp} (h : IvS cls b B H) {p : Addr} {ys : List V} (hc : cls p = .a) (hb : b ≤ c) (hl : ys.length ≤ c) (he : ∀ v ∈ ys, ElS cls B H v) : IvS cls c B (L2.upd H p (.lst ys)) := by
  have el : ∀ {v : V}, ElS cls B H v → ElS cls B (L2.upd H p (.lst ys)) v := fun {v} h => by
    obtain ⟨q, zs, e, d, hq, z⟩ := h
    exact ⟨q, zs, e, d, by rw [upd_ne (fun w => by subst w; exact cl_ao hc d)]; exact hq, z⟩
  refine ⟨fun q e => ?_, fun q e => ?_, fun q e => ?_⟩
  · by_cases w : q = p
    · rw [w, upd_same] at e; cases e
    · rw [upd_ne w] at e; exact h.fr q e
  · by_cases w : q = p
    · subst w
      exact ⟨ys, upd_same, hl, fun v hv => el (he v hv)⟩
    · obtain ⟨zs, h1, h2, h3⟩ := h.as q e
      exact ⟨zs, by rw [upd_ne w]; exact h1, by omega, fun v hv => el (h3 v hv)⟩
  · obtain ⟨zs, h1, h2⟩ := h.os q e
    exact ⟨zs, by rw [upd_ne (fun w => by rw [w, hc] at e; cases e)]; exact h1, h2⟩
/-- something new -/
theorem IvS.new {cls : Addr → Cl} {b B : Nat} {H : Hp} (h : IvS cls b B H) {p : Addr} {o : HO} (np : H p = none) : IvS cls b B (L2.upd H p o) := by
  have ne : ∀ {q : Addr} {u : HO}, H q = some u → q ≠ p := fun {q u} e z => by rw [z, np] at e; cases e
  have el : ∀ {v : V}, ElS cls B H v → ElS cls B (L2.upd H p o) v := fun {v} h => by
    obtain ⟨q, zs, e, d, hq, z⟩ := h
    exact ⟨q, zs, e, d, by rw [upd_ne (ne hq)]; exact hq, z⟩
  refine ⟨fun q e => ?_, fun q e => ?_, fun q e => ?_⟩
  · by_cases w : q = p
    · rw [w, upd_same] at e; cases e
    · rw [upd_ne w] at e; exact h.fr q e
  · obtain ⟨zs, h1, h2, h3⟩ := h.as q e
    exact ⟨zs, by rw [upd_ne (ne h1)]; exact h1, h2, fun v hv => el (h3 v hv)⟩
  · obtain ⟨zs, h1, h2⟩ := h.os q e
    exact ⟨zs, by rw [upd_ne (ne h1)]; exact h1, h2⟩
/-- what k11's spoiling promises -/
def spSp : Sp := fun vs H Q _ => ∃ (cls : Addr → Cl) (b B : Nat) (a r m s u d : Addr) (z : Int), vs = [.ref a] ∧ H a = some (.lst [.ref r, .ref m, .ref s, .ref u, .ref d, .int z]) ∧ cls a = .k ∧ cls r = .o ∧ cls s = .o ∧ cls d = .o ∧ cls m = .a ∧ cls u = .a ∧ IvS cls b B H ∧ b ≤ 200 ∧ B ≤ 100000 ∧
  ∀ H', IvS cls (b + 1) (B + 2 * b + 3) H' → KpS cls H H' → Q .non H'
end Dl

namespace K11
open PySem PySem.Spec
open PyProof.Rows L2 Dl
abbrev spoilS : Stmt := PySem.Challenge.pw_steadyhand_k11_a_thing_told.main.body.getD 26 (.Pass ⟨0, 0, 0, 0⟩)
abbrev spoilN : List Str := ["_law_parts", "_law_rows", "_law_move", "_law_steer", "_law_push", "_law_add", "_law_divisor", "_law_one"]
theorem sc_spoil : FnScope spoilN ["_law_parts"] (defScope spoilS) := ⟨rfl, rfl, rfl, by decide +kernel, rfl, by decide +kernel, by decide +kernel⟩
/-- all statements behind the first -/
def spoilT (K : PySem.W.Frag) : L2.TS :=
  tSeq (tDrop (tBM K "list" rAppend (tVar 1) (tCons (tTup tNil) tNil)))
  (tSeq (tFor (iList K (tOp rCat (tVar 2) (tVar 4))) (gName 7) (tDrop (tBM K "list" rAppend (tVar 7) (tCons (tC (V.int 7)) tNil))))
  (tSeq (tDrop (tBM0 K "list" rClear (tVar 2)))
  (tSeq (tDrop (tBM K "list" rAppend (tVar 4) (tCons (tLst tNil) tNil)))
  (tSeq (tDrop (tBM K "list" rAppend (tVar 3) (tCons (tC (V.int 7)) tNil)))
  (tSeq (tDrop (tBM K "list" rAppend (tVar 5) (tCons (tC (V.int 7)) tNil))) tNext)))))
theorem fr_ne {H : Hp} {p q : Addr} {o : HO} (h : H p = some o) (n : H q = none) : p ≠ q := fun z => by rw [z, n] at h; cases h
theorem spoilT_ok {K : PySem.W.Frag} {D : Ends} {σ1 : L2.St} {H : Hp} {cls : Addr → Cl} {b B : Nat} {r m s' u d : Addr} (g1 : σ1[1]? = some (some (.ref r))) (g2 : σ1[2]? = some (some (.ref m))) (g3 : σ1[3]? = some (some (.ref s'))) (g4 : σ1[4]? = some (some (.ref u))) (g5 : σ1[5]? = some (some (.ref d))) (gl : 7 < σ1.length)
    (kr : cls r = .o) (ks : cls s' = .o) (kd : cls d = .o) (km : cls m = .a) (ku : cls u = .a) (iv : IvS cls b B H) (hb : b ≤ 200) (hB : B ≤ 100000)
    (nx : ∀ σ H', IvS cls (b + 1) (B + 2 * b + 3) H' → KpS cls H H' → D.nx σ H') : spoilT K D σ1 H := by
  have nk : ∀ {q : Addr}, (cls q = .o ∨ cls q = .n) → cls q ≠ .k := fun h z => by rcases h with h | h <;> rw [z] at h <;> cases h
  obtain ⟨ys1, hr, l1⟩ := iv.os r kr
  refine ⟨_, g1, .inl ⟨rfl, ys1, SqL.of hr⟩, Nat.zero_le _, fun p np => ?_⟩
  have iv1 := iv.new (o := .tup []) np
  have kp1 : KpS cls H (L2.upd H p (.tup [])) := .upd (by rw [iv.fr p np]; exact fun z => nomatch z)
  have hr1 : (L2.upd H p (.tup [])) r = some (.lst ys1) := by rw [upd_ne (fr_ne hr np)]; exact hr
  generalize L2.upd H p (.tup []) = H1 at iv1 kp1 hr1
  refine ⟨r, ys1, .ref p, rfl, rfl, hr1, by rw [sizeLine_eq]; omega, ?_⟩
  have iv2 := iv1.app (x := .ref p) (.inl kr) hr1 l1
  have kp2 : KpS cls H (L2.upd H1 r (.lst (ys1 ++ [.ref p]))) := kp1.trans (.upd (by rw [kr]; exact fun z => nomatch z))
  show tSeq _ _ D σ1 _
  generalize L2.upd H1 r (.lst (ys1 ++ [.ref p])) = H2 at iv2 kp2
  obtain ⟨ms, hm, ml, me⟩ := iv2.as m km
  obtain ⟨us, hu, ul, ue⟩ := iv2.as u ku
  refine ⟨_, g2, _, g4, m, u, ms, us, rfl, rfl, hm, hu, by rw [sizeLine_eq]; omega, fun c nc => ?_⟩
  have iv3 := iv2.new (o := .lst (ms ++ us)) nc
  have kc := iv2.fr c nc
  have kp3 : KpS cls H (L2.upd H2 c (.lst (ms ++ us))) := kp2.trans (.upd (by rw [kc]; exact fun z => nomatch z))
  have hc : (L2.upd H2 c (.lst (ms ++ us))) c = some (.lst (ms ++ us)) := upd_same
  have ce : ∀ v ∈ ms ++ us, ∃ q, v = .ref q ∧ q ≠ c ∧ (cls q = .o ∨ cls q = .n) := fun v hv => by
    have h : ElS cls (B + 1) H2 v := by
      rcases List.mem_append.mp hv with h | h
      · exact me v h
      · exact ue v h
    obtain ⟨q, zs, e, cq, hq, _⟩ := h
    exact ⟨q, e, fr_ne hq nc, cq⟩
  have el3 : ∀ v ∈ ms ++ us, ElS cls (B + 1) (L2.upd H2 c (.lst (ms ++ us))) v := fun v hv => by
    have h : ElS cls (B + 1) H2 v := by
      rcases List.mem_append.mp hv with h | h
      · exact me v h
      · exact ue v h
    obtain ⟨q, zs, e, cq, hq, zl⟩ := h
    exact ⟨q, zs, e, cq, by rw [upd_ne (fr_ne hq nc)]; exact hq, zl⟩
  generalize L2.upd H2 c (.lst (ms ++ us)) = H3 at iv3 kp3 hc el3
  refine ⟨c, rfl, ⟨_, SqL.of hc⟩, ?_⟩
  refine for_it (walk_list (K := K) (a := c) (xs := ms ++ us)) (fun k σ' H' => offJ [7] σ1 σ' ∧ k ≤ (ms ++ us).length ∧ IvS cls b (B + 1 + k) H' ∧ KpS cls H H' ∧ H' c = some (.lst (ms ++ us)) ∧ ∀ v ∈ ms ++ us, ElS cls (B + 1 + k) H' v) ⟨⟨rfl, fun _ _ => rfl⟩, Nat.zero_le _, iv3, kp3, hc, el3⟩ ?_ ?_ ?_
  · rintro k σ' H' _ ⟨_, _, _, _, h, _⟩
    exact SqL.of h
  · rintro k v σ' H' H'' hk ⟨so, _, ivk, kpk, hck, elk⟩ ⟨rfl, hy⟩
    have vm : v ∈ ms ++ us := List.mem_of_getElem? hy
    obtain ⟨q, zs, rfl, cq, hq, zl⟩ := elk v vm
    obtain ⟨q', e, qc, _⟩ := ce _ vm
    cases e
    have il' : 7 < σ'.length := by rw [so.1]; exact gl
    refine ⟨_, List.getElem?_set_self il', .inl ⟨rfl, zs, SqL.of hq⟩, q, zs, .int 7, rfl, rfl, hq, by rw [List.length_append] at hk; rw [sizeLine_eq]; omega, ?_⟩
    refine ⟨⟨by rw [List.length_set]; exact so.1, fun k' hk' => ?_⟩, hk, ivk.app cq hq zl, kpk.trans (.upd (nk cq)), by rw [upd_ne (Ne.symm qc)]; exact hck, fun v hv => ?_⟩
    · rw [List.getElem?_set_ne (fun z => hk' (by rw [← z]; exact List.mem_singleton.mpr rfl))]
      exact so.2 k' hk'
    · obtain ⟨q2, ws, e, c2, h2, wl⟩ := elk v hv
      by_cases z : q2 = q
      · subst z
        rw [hq] at h2
        cases h2
        exact ⟨q2, _, e, c2, upd_same, by rw [List.length_append]; exact Nat.add_le_add_right zl 1⟩
      · exact ⟨q2, ws, e, c2, by rw [upd_ne z]; exact h2, by omega⟩
  · rintro σ' H4 ⟨so, _, iv4, kp4, _, _⟩
    have at' : ∀ {i : Nat} {x : Option V}, i ≠ 7 → σ1[i]? = some x → σ'[i]? = some x := fun {i x} n h => by
      rw [so.2 i (fun z => n (List.mem_singleton.mp z))]; exact h
    have bl : (ms ++ us).length ≤ 2 * b := by rw [List.length_append]; omega
    have iv4 : IvS cls b (B + 1 + 2 * b) H4 := iv4.mono (Nat.le_refl _) (by omega)
    obtain ⟨ms4, hm4, ml4, me4⟩ := iv4.as m km
    refine ⟨_, at' (by decide) g2, .inl ⟨rfl, _, SqL.of hm4⟩, m, ms4, rfl, rfl, hm4, ?_⟩
    have iv5 := iv4.put (ys := []) km (Nat.le_refl _) (Nat.zero_le _) fun v hv => nomatch hv
    have kp5 : KpS cls H (L2.upd H4 m (.lst [])) := kp4.trans (.upd (by rw [km]; exact fun z => nomatch z))
    show tSeq _ _ D σ' _
    generalize L2.upd H4 m (.lst []) = H5 at iv5 kp5
    obtain ⟨us5, hu5, ul5, ue5⟩ := iv5.as u ku
    refine ⟨_, at' (by decide) g4, .inl ⟨rfl, _, SqL.of hu5⟩, Nat.zero_le _, fun p np => ?_⟩
    have iv6 := iv5.new (o := .lst []) np
    have kp6 : KpS cls H (L2.upd H5 p (.lst [])) := kp5.trans (.upd (by rw [iv5.fr p np]; exact fun z => nomatch z))
    have hu6 : (L2.upd H5 p (.lst [])) u = some (.lst us5) := by rw [upd_ne (fr_ne hu5 np)]; exact hu5
    have ep : ElS cls (B + 1 + 2 * b) (L2.upd H5 p (.lst [])) (.ref p) := ⟨p, [], rfl, .inr (iv5.fr p np), upd_same, Nat.zero_le _⟩
    have ue6 : ∀ v ∈ us5, ElS cls (B + 1 + 2 * b) (L2.upd H5 p (.lst [])) v := fun v hv => by
      obtain ⟨q, zs, e, cq, hq, zl⟩ := ue5 v hv
      exact ⟨q, zs, e, cq, by rw [upd_ne (fr_ne hq np)]; exact hq, zl⟩
    generalize L2.upd H5 p (.lst []) = H6 at iv6 kp6 hu6 ep ue6
    refine ⟨u, us5, .ref p, rfl, rfl, hu6, by rw [sizeLine_eq]; omega, ?_⟩
    have iv7 := iv6.put (c := b + 1) (ys := us5 ++ [.ref p]) ku (by omega) (by rw [List.length_append]; exact Nat.add_le_add_right ul5 1) fun v hv => by
      rcases List.mem_append.mp hv with h | h
      · exact ue6 v h
      · rw [List.mem_singleton.mp h]; exact ep
    have kp7 : KpS cls H (L2.upd H6 u (.lst (us5 ++ [.ref p]))) := kp6.trans (.upd (by rw [ku]; exact fun z => nomatch z))
    show tSeq _ _ D σ' _
    generalize L2.upd H6 u (.lst (us5 ++ [.ref p])) = H7 at iv7 kp7
    obtain ⟨ss, hs, sl⟩ := iv7.os s' ks
    refine ⟨_, at' (by decide) g3, .inl ⟨rfl, _, SqL.of hs⟩, s', ss, .int 7, rfl, rfl, hs, by rw [sizeLine_eq]; omega, ?_⟩
    have iv8 := iv7.app (x := .int 7) (.inl ks) hs sl
    have kp8 : KpS cls H (L2.upd H7 s' (.lst (ss ++ [.int 7]))) := kp7.trans (.upd (by rw [ks]; exact fun z => nomatch z))
    show tSeq _ _ D σ' _
    generalize L2.upd H7 s' (.lst (ss ++ [.int 7])) = H8 at iv8 kp8
    obtain ⟨ds, hd, dl⟩ := iv8.os d kd
    refine ⟨_, at' (by decide) g5, .inl ⟨rfl, _, SqL.of hd⟩, d, ds, .int 7, rfl, rfl, hd, by rw [sizeLine_eq]; omega, ?_⟩
    have iv9 := iv8.app (x := .int 7) (.inl kd) hd dl
    exact nx _ _ (iv9.mono (Nat.le_refl _) (by omega)) (kp8.trans (.upd (by rw [kd]; exact fun z => nomatch z)))
section
variable {P : Program} {w : World} {K : PySem.W.Frag} {mg : Str → Option Value} {base : Heap} {f : Addr} {cdv : Value} {A : Around} {outer : List Env} {s : Shared} {H0 : Hp} {E : XK}

theorem spoil_ps : ∃ ts, PSs (cxOf (L2.CX P w) P w K mg base spoilN "_law_spoil" (defScope spoilS) f cdv A outer s H0 E) (defBody spoilS) ts ∧ ∀ (D : Ends) (H : Hp) (cls : Addr → Cl) (b B : Nat) (a r m s' u d : Addr) (z : Int), H a = some (.lst [.ref r, .ref m, .ref s', .ref u, .ref d, .int z]) → cls a = .k → cls r = .o → cls s' = .o → cls d = .o → cls m = .a → cls u = .a → IvS cls b B H → b ≤ 200 → B ≤ 100000 →
    (∀ σ H', IvS cls (b + 1) (B + 2 * b + 3) H' → KpS cls H H' → D.nx σ H') → ts D (start spoilN [.ref a]) H := by
  have nd : spoilN.Nodup := by decide +kernel
  refine ⟨_, pss_cons (ps_asg (pe_var (i := 0) rfl (.inl rfl)) (pg_or (pg_tup rfl (pgs_cons (pg_name nd (i := 1) rfl (.inl rfl)) (pgs_cons (pg_name nd (i := 2) rfl (.inl rfl)) (pgs_cons (pg_name nd (i := 3) rfl (.inl rfl)) (pgs_cons (pg_name nd (i := 4) rfl (.inl rfl)) (pgs_cons (pg_name nd (i := 5) rfl (.inl rfl)) (pgs_cons (pg_name nd (i := 6) rfl (.inl rfl)) pgs_nil)))))) rfl rfl)
    (pg_lst rfl (pgs_cons (pg_name nd (i := 1) rfl (.inl rfl)) (pgs_cons (pg_name nd (i := 2) rfl (.inl rfl)) (pgs_cons (pg_name nd (i := 3) rfl (.inl rfl)) (pgs_cons (pg_name nd (i := 4) rfl (.inl rfl)) (pgs_cons (pg_name nd (i := 5) rfl (.inl rfl)) (pgs_cons (pg_name nd (i := 6) rfl (.inl rfl)) pgs_nil)))))) rfl rfl)))
    (pss_cons (ps_expr (pe_bm F.plainAttrs_list F.slot_list_append F.type_list_append mt_append (pe_var (i := 1) rfl (.inl rfl)) (pa_cons (pe_tup pa_nil) pa_nil rfl)))
    (pss_cons (ps_for (passes_of rfl) rfl (pi_list (pe_op op_cat (pe_var (i := 2) rfl (.inl rfl)) (pe_var (i := 4) rfl (.inl rfl)))) (pg_name nd (i := 7) rfl (.inl rfl)) (pss_one (ps_expr (pe_bm F.plainAttrs_list F.slot_list_append F.type_list_append mt_append (pe_var (i := 7) rfl (.inl rfl)) (pa_cons pe_int pa_nil rfl)))))
    (pss_cons (ps_expr (pe_bm0 F.plainAttrs_list F.slot_list_clear F.type_list_clear mt_clear (pe_var (i := 2) rfl (.inl rfl))))
    (pss_cons (ps_expr (pe_bm F.plainAttrs_list F.slot_list_append F.type_list_append mt_append (pe_var (i := 4) rfl (.inl rfl)) (pa_cons (pe_lst pa_nil) pa_nil rfl)))
    (pss_cons (ps_expr (pe_bm F.plainAttrs_list F.slot_list_append F.type_list_append mt_append (pe_var (i := 3) rfl (.inl rfl)) (pa_cons pe_int pa_nil rfl)))
    (pss_cons (ps_expr (pe_bm F.plainAttrs_list F.slot_list_append F.type_list_append mt_append (pe_var (i := 5) rfl (.inl rfl)) (pa_cons pe_int pa_nil rfl))) pss_nil)))))), ?_⟩
  intro D H cls b B a r m s' u d z ha ka kr ks kd km ku iv hb hB nx
  have lineL : sizeLine = 16777216 := sizeLine_eq
  refine ⟨_, rfl, .inr ⟨a, _, rfl, SqL.of ha, rfl, ?_⟩⟩
  refine ⟨_, _, rfl, _, _, rfl, _, _, rfl, _, _, rfl, _, _, rfl, _, _, rfl, rfl, ?_⟩
  exact spoilT_ok (K := K) rfl rfl rfl rfl rfl (show 7 < 8 by decide) kr ks kd km ku iv hb hB nx
theorem ok_spoil {k : Nat} {dV kV doc pm ct oc : Value} {od an : Option Addr} {osl : Array (Option Value)}
    (lk : K.lookup f = some ⟨oc, od, .func (PySem.W.fnOf "_law_spoil" "_law_spoil" (defArgs spoilS) (defBody spoilS) (defScope spoilS) dV kV doc pm an cdv ct), osl⟩) (hcd : PySem.W.codeIn K cdv "_law_spoil" = true) :
    FnOk P w K mg base (L2.CX P w) (k + 1) f (PySem.W.fnOf "_law_spoil" "_law_spoil" (defArgs spoilS) (defBody spoilS) (defScope spoilS) dV kV doc pm an cdv ct) ["_law_parts"] spSp := by
  refine fn_of lk hcd sc_spoil (fun vs H Q E h => ?_) fun A outer s H vs Q E hr h => ?_
  · obtain ⟨_, _, _, _, _, _, _, _, _, _, rfl, _⟩ := h
    rfl
  · obtain ⟨ts, h1, h2⟩ := spoil_ps (P := P) (w := w) (K := K) (mg := mg) (base := base) (f := f) (cdv := cdv) (A := A) (outer := outer) (s := s) (H0 := H) (E := E)
    refine ⟨ts, h1, ?_⟩
    obtain ⟨cls, b, B, a, r, m, s', u, d, z, rfl, ha, ka, kr, ks, kd, km, ku, iv, hb, hB, q⟩ := h
    exact h2 _ H cls b B a r m s' u d z ha ka kr ks kd km ku iv hb hB fun σ H' i1 i2 => q H' i1 i2
end
end K11

/-! The D-layer, more: something put behind a list that may be changed. -/
namespace Dl
open PySem PySem.Spec
open PyProof.Rows L2
section
variable {X : Cx} {W : WX}
/-- what is made without a look at names, nothing else touched -/
structure PV (X : Cx) (e : Expr) : Prop where
  run : ∃ te, PE X e te ∧ ∀ (σ : L2.St) (H : Hp) (Q : VK), (∀ v H', Same H H' → Q v H') → te σ H Q
variable {u : DS}
theorem rsj_frz (i : Nat) {sts : List Stmt} (h : RSj X W sts u) : RSj X W sts (dFrz i u) := by
  obtain ⟨ts, h1, h2⟩ := h.run
  refine ⟨ts, h1, fun F0 H0 ρ σ F H D d n0 en c q => ?_⟩
  unfold dFrz at q
  split at q
  · rename_i ds ho
    obtain ⟨p, vs, g1, g2, g3, g4, g5⟩ := en.rl.ow i ds ho
    have h0 := en.new i _ p ho rfl g1
    have sm : SameF F (F.upd p (.lst vs)) := same_updF g3
    have fz : Same (F.upd p (.lst vs)) H := fun b u q => by
      rw [Fz.upd_h] at q
      by_cases z : b = p
      · subst z; rw [upd_same] at q; cases q; exact g2
      · rw [upd_ne z] at q; exact en.rl.fh _ _ q
    have il := (List.getElem?_eq_some_iff.mp ho).1
    have at_i : ∀ {s : Sl}, (ρ.set i (.sh (.lst ds)))[i]? = some s → s = .sh (.lst ds) := fun h => by
      rw [List.getElem?_set_self il] at h; exact (Option.some.inj h).symm
    have ne : ∀ {j : Nat}, i ≠ j → (ρ.set i (.sh (.lst ds)))[j]? = ρ[j]? := fun h => List.getElem?_set_ne h
    have np : ∀ {j : Nat} {s : Sl} {q : Addr}, i ≠ j → ρ[j]? = some s → s.own = true → σ[j]? = some (some (.ref q)) → q ≠ p := fun {j s q} hj h o hq z => by
      subst z
      exact hj (en.rl.inj i j _ s _ ho rfl h o g1 hq)
    refine h2 F0 H0 _ σ (F.upd p (.lst vs)) H D d n0 ⟨⟨by rw [List.length_set]; exact en.rl.len, fz, fun j d h => ?_, fun j fs h => ?_, fun j C fs h => ?_, fun j kvs h => ?_, fun j k s s' w q1 o1 q2 o2 q3 q4 => ?_⟩, ⟨en.go.ff.trans sm, en.go.hh, fz, fun q q1 q2 => ?_⟩, fun j s q h o hq => ?_⟩ c q
    · by_cases hj : i = j
      · subst hj
        cases at_i h
        exact ⟨_, g1, .lst upd_same (F.upd_p p _) g4 (g5.mono sm)⟩
      · rw [ne hj] at h
        obtain ⟨v, q1, q2⟩ := en.rl.sh j d h
        exact ⟨v, q1, q2.mono sm⟩
    · by_cases hj : i = j
      · subst hj; cases at_i h
      · rw [ne hj] at h
        obtain ⟨q, us, q1, q2, q3, q4, q5⟩ := en.rl.ow j fs h
        exact ⟨q, us, q1, q2, by rw [Fz.upd_h, upd_ne (np hj h rfl q1)]; exact q3, q4, q5.mono sm⟩
    · by_cases hj : i = j
      · subst hj; cases at_i h
      · rw [ne hj] at h
        obtain ⟨q, dx, us, q1, q2, q3, q5, q6⟩ := en.rl.oi j C fs h
        exact ⟨q, dx, us, q1, q2, by rw [Fz.upd_h, upd_ne (np hj h rfl q1)]; exact q3, q5.mono sm, q6⟩
    · by_cases hj : i = j
      · subst hj; cases at_i h
      · rw [ne hj] at h
        obtain ⟨q, us, q1, q2, q3, q5⟩ := en.rl.od j kvs h
        exact ⟨q, us, q1, q2, by rw [Fz.upd_h, upd_ne (np hj h rfl q1)]; exact q3, q5.mono sm⟩
    · have low : ∀ {j : Nat} {s : Sl}, (ρ.set i (.sh (.lst ds)))[j]? = some s → s.own = true → ρ[j]? = some s := fun {j s} h o => by
        by_cases hj : i = j
        · subst hj; rw [at_i h] at o; cases o
        · rw [ne hj] at h; exact h
      exact en.rl.inj j k s s' w (low q1 o1) o1 (low q2 o2) o2 q3 q4
    · have : q ≠ p := fun z => by rw [z] at q2; exact q2 h0
      rw [Fz.upd_h, upd_ne this]; exact en.go.nn q q1 q2
    · by_cases hj : i = j
      · subst hj; rw [at_i h] at o; cases o
      · rw [ne hj] at h; exact en.new j s q h o hq
  · exact h2 F0 H0 ρ σ F H D d n0 en c q
end
end Dl

/-! The D-layer, more: a def that spoils what its caller hands it; a new list changed at once. -/
namespace Dl
open PySem PySem.Spec
open PyProof.Rows L2
/-- a def of any promise -/
structure FS (P : Program) (w : World) (K : PySem.W.Frag) (mg : Str → Option Value) (base : Heap) (k : Nat) (f : Addr) (sp : Sp) : Prop where
  ok : ∃ (fd : FuncData) (ps : List Str), FnOk P w K mg base (L2.CX P w) k f fd ps sp ∧ Binds K fd ps []
  kp : PySem.W.keepIn K (.ref f) = true
section
variable {X : Cx} {W : WX}
theorem pv_pair {i j : Int} {i1 i2 k : Nat} {p1 p2 pos : Pos} (hs : starEach [.Constant (.int i) i1 p1, .Constant (.int j) i2 p2] X.env = (false, eval (.Constant (.int i) i1 p1) X.env) :: starEach [.Constant (.int j) i2 p2] X.env := by rfl) (hs2 : starEach [.Constant (.int j) i2 p2] X.env = (false, eval (.Constant (.int j) i2 p2) X.env) :: starEach [] X.env := by rfl) : PV X (.Tuple [.Constant (.int i) i1 p1, .Constant (.int j) i2 p2] k pos) :=
  ⟨_, pe_tup (pa_cons pe_int (pa_cons pe_int pa_nil hs2) hs), fun σ H Q kk => ⟨by show 2 ≤ sizeLine; decide, fun p np => kk _ _ fun b o e => by
    rw [upd_ne (fun z => by rw [z, np] at e; cases e)]
    exact e⟩⟩
/-- o.m(): the list is new -/
def dMethN (C : Addr) (m : Str) (G : DF1) (t : TD) : TDs := fun ρ Q E => t ρ (fun x => match x with
  | .ins c fs => c = C ∧ fs.lookup m = none ∧ G [.ins c fs] Q E
  | _ => False) E
theorem rn_meth0 {k : Nat} {f C : Addr} {G : DF1} {m : Str} {apos pos : Pos} {o : Expr} {t : TD} {pl : Sem Bool} (he : RE X W o t) (c : Cls X.K C) (hm : Meth X.K C m f) (h : FS X.prog X.w X.K X.mg X.base k f (spO1 X.K 1 G)) (hr : Room k X.A) (tk : Takes X W)
    (ht : eval (.Call (.Attribute o m apos) [] [] pos) X.env = (eval o X.env >>= fun ov => standAt apos.atName >>= fun _ => holding [ov] (getMethod ov m pl) >>= fun (g : Value × List Value) => callWith pos g.1 g.2 (backTo pos (starEach [] X.env)) (backToKw pos (keywordEach [] X.env))) := by rfl) :
    RN X W (.Call (.Attribute o m apos) [] [] pos) (dMethN C m G t) := by
  obtain ⟨fd, ps, F, bn⟩ := h.ok
  obtain ⟨te, h1, h2⟩ := he.run
  refine ⟨_, pe_methS0 (pl := pl) h1 c hm F hr bn (fun σ => passAt tk σ) ht, fun ρ σ F H Qd E Q rl xp kk q => ?_⟩
  refine h2 ρ σ F H _ E _ rl xp (fun x vx F1 H1 g1 r1 q1 => ?_) q
  cases x <;> first | exact False.elim q1 | skip
  obtain ⟨rfl, q2, q3⟩ := q1
  cases id r1 with
  | ins s r =>
    refine ⟨_, _, _, rfl, g1.fh _ _ s, r.none q2, ?_⟩
    refine ⟨_ :: [], F1, Qd, E, g1.fh, .cons r1 .nil, rfl, q3, fun ds p F' H' g o qd => ?_, fun x cls dx F' H' g r ex => xp x cls dx F' H' (g1.trans g) r ex⟩
    obtain ⟨o1, o2, vs, o3, o4, o5⟩ := o
    exact kk ds p vs F' H' (g1.trans g) (g1.hh.free o1) o3 o2 o4 o5 qd
def preRN (tn : TDs) : Env' → Prop := fun ρ => tn ρ (fun ds => ds.length ≤ 500) (fun _ => False)
theorem jb_rnApp {e ce : Expr} {tn : TDs} {apos cpos epos : Pos} (h : RN X W e tn) (hce : PV X ce)
    (hbase : attributeBase e "append" X.env (eval e X.env) = eval e X.env := by rfl)
    (hfew : ((backTo cpos (starEach [ce] X.env)).all (fun x => !x.1) && (backToKw cpos (keywordEach [] X.env)).all (fun x => x.1.isSome)
      && decide (([ce] : List Expr).length + ([] : List Keyword).length + (if ([] : List Keyword).isEmpty then 0 else 1) < 30)) = true := by rfl)
    (hline : (apos.endLine == cpos.line) = true := by rfl) (hs : starEach [ce] X.env = (false, eval ce X.env) :: starEach [] X.env := by rfl) (hplain : (backTo cpos (starEach [] X.env)).any (·.1) = false := by rfl)
    (hsw : swapsWith (.Call (.Attribute e "append" apos) [ce] [] cpos) none epos.line X.env = pure false := by rfl) :
    JB X (.Expr (.Call (.Attribute e "append" apos) [ce] [] cpos) epos) (preRN tn) [] := by
  obtain ⟨te, h1, h2⟩ := hce.run
  obtain ⟨t1, e1, e2⟩ := h.run
  refine ⟨⟨_, ps_expr (pe_bm PySem.F.plainAttrs_list PySem.F.slot_list_append PySem.F.type_list_append mt_append e1 (pa_cons h1 pa_nil hs) hbase hfew hline hs hplain) hsw, fun ρ σ F H D rl q nx => ?_⟩⟩
  refine e2 ρ σ F H _ (fun _ => False) _ rl (fun _ _ _ _ _ _ _ z => z.elim) (fun ds p vs F' H1 g np hp fp z r ql => ?_) q
  refine ⟨.inl ⟨rfl, vs, SqL.of hp⟩, h2 σ H1 _ fun v H' s => ?_⟩
  refine ⟨p, vs, v, rfl, rfl, s _ _ hp, by rw [r.length, sizeLine_eq]; exact Nat.lt_of_le_of_lt ql (by decide), nx σ _ ⟨rfl, fun _ _ => rfl⟩ ⟨fun b o e n => ?_⟩⟩
  rw [upd_ne (fun z => by rw [z, np] at e; cases e)]
  exact s b o (g.hh b o e)
theorem jb_rnClear {e : Expr} {tn : TDs} {apos cpos epos : Pos} (h : RN X W e tn)
    (hbase : attributeBase e "clear" X.env (eval e X.env) = eval e X.env := by rfl) (hline : (apos.endLine == cpos.line) = true := by rfl)
    (hsw : swapsWith (.Call (.Attribute e "clear" apos) [] [] cpos) none epos.line X.env = pure false := by rfl) :
    JB X (.Expr (.Call (.Attribute e "clear" apos) [] [] cpos) epos) (preRN tn) [] := by
  obtain ⟨t1, e1, e2⟩ := h.run
  refine ⟨⟨_, ps_expr (pe_bm0 PySem.F.plainAttrs_list PySem.F.slot_list_clear PySem.F.type_list_clear mt_clear e1 hbase hline) hsw, fun ρ σ F H D rl q nx => ?_⟩⟩
  refine e2 ρ σ F H _ (fun _ => False) _ rl (fun _ _ _ _ _ _ _ z => z.elim) (fun ds p vs F' H1 g np hp fp z r ql => ?_) q
  refine ⟨.inl ⟨rfl, vs, SqL.of hp⟩, p, vs, rfl, rfl, hp, nx σ _ ⟨rfl, fun _ _ => rfl⟩ ⟨fun b o e n => ?_⟩⟩
  rw [upd_ne (fun z => by rw [z, np] at e; cases e)]
  exact g.hh b o e
/-! ### what is handed in is spoilt -/
structure JB3 (X : Cx) (st st2 st3 : Stmt) (pre : Env' → Prop) (js : List Nat) : Prop where
  run : ∃ ts ts2 ts3, PS X st ts ∧ PS X st2 ts2 ∧ PS X st3 ts3 ∧ ∀ (ρ : Env') (σ : L2.St) (F : Fz) (H : Hp) (D : Ends), Rl X.K ρ σ F H → pre ρ → (∀ σ' H', offJ js σ σ' → Chg F H H' → D.nx σ' H') → ts { D with nx := ts2 { D with nx := ts3 D } } σ H
theorem rsj_jb3 {st st2 st3 : Stmt} {rest : List Stmt} {v : DS} {pre : Env' → Prop} {js : List Nat} (h : JB3 X st st2 st3 pre js) (hr : RSj X W rest v) : RSj X W (st :: st2 :: st3 :: rest) (dSq (dJB pre js) v) := by
  obtain ⟨t1, t2, t3, h1, h2, h3, h4⟩ := h.run
  obtain ⟨t5, a1, a2⟩ := hr.run
  refine ⟨_, pss_cons h1 (pss_cons h2 (pss_cons h3 a1)), fun F0 H0 ρ σ F H D d n0 e c q => ?_⟩
  exact h4 ρ σ F H { D with nx := t5 D } e.rl q.1 fun σ' H' so ch => a2 F0 H0 _ σ' _ H' D d n0 (e.chg n0 js ch so) c q.2
end
/-- a list of ints that may be changed -/
def muI (d : D) : Prop := ∃ zs : List Int, d = .mu (zs.map .int) ∧ zs.length ≤ 20
def muT (d : D) : Prop := ∃ ts : List D, d = .mu ts ∧ ts.length ≤ 20 ∧ ∀ x ∈ ts, ∃ es, x = .tup es
def muL (d : D) : Prop := ∃ ts : List D, d = .mu ts ∧ ts ≠ [] ∧ ts.length ≤ 20 ∧ ∀ x ∈ ts, muI x
def okPa (d : D) : Prop := ∃ (rows move steer push add : D) (z : Int), d = .lst [rows, move, steer, push, add, .int z] ∧ muT rows ∧ muL move ∧ muI steer ∧ muL push ∧ muI add
def preSp (iP iH iL : Nat) : Env' → Prop := fun ρ => iP < ρ.length ∧ iP ≠ iH ∧ iP ≠ iL ∧ ∃ (hs ms : List D) (ps : D), ρ[iH]? = some (.sh (.lst hs)) ∧ hs.length ≤ 40 ∧ (∀ d ∈ hs, okPa d) ∧ ρ[iL]? = some (.sh (.lst [ps, .mu ms])) ∧ muT ps
def IsA (F : Fz) (p : Addr) : Prop := F.j p = .j ∧ ∃ ys, F.h p = some (.lst ys) ∧ ys ≠ [] ∧ ys.length ≤ 20 ∧ ∀ v ∈ ys, ∃ (q : Addr) (zs : List Int), v = .ref q ∧ F.j q = .j ∧ F.h q = some (.lst (zs.map V.int)) ∧ zs.length ≤ 20
def IsO (F : Fz) (p : Addr) : Prop := F.j p = .j ∧ ∃ ys, F.h p = some (.lst ys) ∧ ys.length ≤ 20 ∧ ∀ v ∈ ys, (∃ i, v = .int i) ∨ ∃ (q : Addr) (ws : List V), v = .ref q ∧ F.h q = some (.tup ws)
open Classical in
noncomputable def clsF (F : Fz) (H : Hp) (p : Addr) : Cl := if H p = none then .n else if IsA F p then .a else if IsO F p then .o else .k
theorem isA_not {F : Fz} {p : Addr} (a : IsA F p) (o : IsO F p) : False := by
  obtain ⟨_, ys, h1, ne, _, h2⟩ := a
  obtain ⟨_, zs, h3, _, h4⟩ := o
  rw [h1] at h3
  cases h3
  cases ys with
  | nil => exact ne rfl
  | cons y ys =>
    obtain ⟨q, ws, rfl, _, h5, _⟩ := h2 y List.mem_cons_self
    rcases h4 _ List.mem_cons_self with ⟨i, e⟩ | ⟨q', us, e, h6⟩
    · cases e
    · cases e
      rw [h5] at h6
      cases h6
section
variable {F : Fz} {H : Hp} (fh : Same F H)
include fh
theorem cls_a {p : Addr} (h : IsA F p) : clsF F H p = .a := by
  obtain ⟨_, ys, h1, _⟩ := id h
  unfold clsF
  rw [if_neg (by rw [fh _ _ h1]; exact fun z => nomatch z), if_pos h]
theorem cls_o {p : Addr} (h : IsO F p) : clsF F H p = .o := by
  obtain ⟨_, ys, h1, _⟩ := id h
  unfold clsF
  rw [if_neg (by rw [fh _ _ h1]; exact fun z => nomatch z), if_neg (fun a => isA_not a h), if_pos h]
theorem cls_k {p : Addr} {o : HO} (hp : H p = some o) (h : F.j p ≠ .j) : clsF F H p = .k := by
  unfold clsF
  rw [if_neg (by rw [hp]; exact fun z => nomatch z), if_neg (fun a => h a.1), if_neg (fun a => h a.1)]
theorem cls_inv : IvS (clsF F H) 20 20 H := by
  refine ⟨fun q e => by unfold clsF; rw [if_pos e], fun p e => ?_, fun p e => ?_⟩
  · have a : IsA F p := by
      unfold clsF at e
      split at e
      · cases e
      · split at e
        · assumption
        · split at e <;> cases e
    obtain ⟨_, ys, h1, _, hl, h2⟩ := a
    refine ⟨ys, fh _ _ h1, hl, fun v hv => ?_⟩
    obtain ⟨q, zs, rfl, jq, hq, zl⟩ := h2 v hv
    refine ⟨q, _, rfl, .inl (cls_o fh ⟨jq, _, hq, by rw [List.length_map]; exact zl, fun w hw => ?_⟩), fh _ _ hq, by rw [List.length_map]; exact zl⟩
    obtain ⟨i, _, e⟩ := List.mem_map.mp hw
    exact .inl ⟨i, e.symm⟩
  · have a : IsO F p := by
      unfold clsF at e
      split at e
      · cases e
      · split at e
        · cases e
        · split at e
          · assumption
          · cases e
    obtain ⟨_, ys, h1, hl, _⟩ := a
    exact ⟨ys, fh _ _ h1, hl⟩
end
theorem muI_is {K : PySem.W.Frag} {F : Fz} {d : D} {v : V} (h : muI d) (r : Rep K F d v) : ∃ q, v = .ref q ∧ IsO F q ∧ ∃ zs : List Int, F.h q = some (.lst (zs.map V.int)) ∧ zs.length ≤ 20 := by
  obtain ⟨zs, rfl, zl⟩ := h
  cases r with
  | mu s j l r =>
    have e := r.ints
    subst e
    refine ⟨_, rfl, ⟨j, _, s, by rw [List.length_map]; exact zl, fun w hw => ?_⟩, zs, s, zl⟩
    obtain ⟨i, _, e⟩ := List.mem_map.mp hw
    exact .inl ⟨i, e.symm⟩
theorem muT_is {K : PySem.W.Frag} {F : Fz} {d : D} {v : V} (h : muT d) (r : Rep K F d v) : ∃ q, v = .ref q ∧ IsO F q := by
  obtain ⟨ts, rfl, tl, ht⟩ := h
  cases r with
  | mu s j l r =>
    refine ⟨_, rfl, j, _, s, by rw [r.length]; exact tl, fun w hw => ?_⟩
    obtain ⟨k, hk⟩ := List.getElem?_of_mem hw
    obtain ⟨d2, k1, k2⟩ := r.get' hk
    obtain ⟨es, rfl⟩ := ht d2 (List.mem_of_getElem? k1)
    cases k2 with
    | tup s2 l2 r2 => exact .inr ⟨_, _, rfl, s2⟩
theorem muL_is {K : PySem.W.Frag} {F : Fz} {d : D} {v : V} (h : muL d) (r : Rep K F d v) : ∃ q, v = .ref q ∧ IsA F q := by
  obtain ⟨ts, rfl, ne, tl, ht⟩ := h
  cases r with
  | mu s j l r =>
    refine ⟨_, rfl, j, _, s, fun z => ?_, by rw [r.length]; exact tl, fun w hw => ?_⟩
    · subst z
      cases r
      exact ne rfl
    · obtain ⟨k, hk⟩ := List.getElem?_of_mem hw
      obtain ⟨d2, k1, k2⟩ := r.get' hk
      have m2 := ht d2 (List.mem_of_getElem? k1)
      obtain ⟨zs, rfl, zl⟩ := m2
      cases k2 with
      | mu s2 j2 l2 r2 =>
        have e := r2.ints
        subst e
        exact ⟨_, zs, rfl, j2, s2, zl⟩
theorem jb3_spoil {X : Cx} {W : WX} (iP iH iL : Nat) {k : Nat} {f : Addr} {x y z : Str} {e0 e1 ce : Expr} {np hp2 zp ap cpos epos fpos apos cpos1 epos1 apos2 cpos2 epos2 : Pos}
    (h : FS X.prog X.w X.K X.mg X.base k f spSp) (hr : Room k X.A) (hm : X.mg z = some (.ref f)) (tk : Takes X W) (hnd : X.N.Nodup) (hp : PassesOwn (model X.prog X.w) X.A X.env X.xe)
    (h0 : PE X e0 (tOp (rIx X.K) (tVar iL) (tC (.int 0)))) (h1 : PE X e1 (tOp (rIx X.K) (tVar iL) (tC (.int 1)))) (hce : PV X ce)
    (hi : X.N[iP]? = some x := by rfl) (hj : X.N[iH]? = some y := by rfl)
    (hx : Loc X.env.scope x := by first | exact Or.inl rfl | exact Or.inr rfl) (hf : X.fn x = true ∨ X.env.scope.names.lookup x = some .local := by first | exact .inl rfl | exact .inr rfl)
    (hv : Vis X.env.scope x := by first | exact Or.inl rfl | exact Or.inr (Or.inl rfl) | exact Or.inr (Or.inr rfl))
    (hvy : Vis X.env.scope y := by first | exact Or.inl rfl | exact Or.inr (Or.inl rfl) | exact Or.inr (Or.inr rfl))
    (hd : (x == ("__debug__" : Str)) = false := by decide) (hcd : (x == ("__classdict__" : Str)) = false := by decide)
    (hdy : (y == ("__debug__" : Str)) = false := by decide) (hcdy : (y == ("__classdict__" : Str)) = false := by decide)
    (hg : Gl X z := by rfl) (hdb : (z == ("__debug__" : Str)) = false := by decide) (he : starEach [.Name x ap] X.env = (false, eval (.Name x ap) X.env) :: starEach [] X.env := by rfl) (hpl : (backTo cpos (starEach [] X.env)).any (·.1) = false := by rfl)
    (hsw0 : swapsWith (.Call (.Name z zp) [.Name x ap] [] cpos) none epos.line X.env = pure false := by rfl)
    (hc : X.calm = true := by rfl) (hs2 : ∀ v, foldedSetIterable (.Name y hp2) X.env v = pure v := by intro _; rfl)
    (hbase : attributeBase e0 "append" X.env (eval e0 X.env) = eval e0 X.env := by rfl)
    (hfew : ((backTo cpos1 (starEach [ce] X.env)).all (fun x => !x.1) && (backToKw cpos1 (keywordEach [] X.env)).all (fun x => x.1.isSome)
      && decide (([ce] : List Expr).length + ([] : List Keyword).length + (if ([] : List Keyword).isEmpty then 0 else 1) < 30)) = true := by rfl)
    (hline : (apos.endLine == cpos1.line) = true := by rfl) (hs : starEach [ce] X.env = (false, eval ce X.env) :: starEach [] X.env := by rfl) (hplain : (backTo cpos1 (starEach [] X.env)).any (·.1) = false := by rfl)
    (hsw : swapsWith (.Call (.Attribute e0 "append" apos) [ce] [] cpos1) none epos1.line X.env = pure false := by rfl)
    (hbase2 : attributeBase e1 "clear" X.env (eval e1 X.env) = eval e1 X.env := by rfl) (hline2 : (apos2.endLine == cpos2.line) = true := by rfl)
    (hsw2 : swapsWith (.Call (.Attribute e1 "clear" apos2) [] [] cpos2) none epos2.line X.env = pure false := by rfl) :
    JB3 X (.For (.Name x np) (.Name y hp2) [.Expr (.Call (.Name z zp) [.Name x ap] [] cpos) epos] [] fpos)
      (.Expr (.Call (.Attribute e0 "append" apos) [ce] [] cpos1) epos1) (.Expr (.Call (.Attribute e1 "clear" apos2) [] [] cpos2) epos2) (preSp iP iH iL) [iP] := by
  obtain ⟨te, c1, c2⟩ := hce.run
  obtain ⟨fd, ps, FO, bn⟩ := h.ok
  refine ⟨⟨_, _, _, ps_for hp hc (pi_list (pe_var hj hvy hdy hcdy)) (pg_name hnd hi hx hf) (pss_one (ps_expr (pe_callSD FO hr hg hm h.kp bn .nil (fun σ => passAt tk σ) (pa_cons (pe_var hi hv hd hcd) pa_nil he) hdb he hpl) hsw0)) hs2,
    ps_expr (pe_bm PySem.F.plainAttrs_list PySem.F.slot_list_append PySem.F.type_list_append mt_append h0 (pa_cons c1 pa_nil hs) hbase hfew hline hs hplain) hsw,
    ps_expr (pe_bm0 PySem.F.plainAttrs_list PySem.F.slot_list_clear PySem.F.type_list_clear mt_clear h1 hbase2 hline2) hsw2, fun ρ σ F H D rl q nx => ?_⟩⟩
  obtain ⟨il, pH, pL, hs, ms, pd, hds, hl, hok, hls, hps⟩ := q
  rw [rl.len] at il
  have fh := rl.fh
  obtain ⟨v0, g1, r0⟩ := rl.sh iH _ hds
  obtain ⟨a, vs, rfl, sa, ja, r⟩ : ∃ a vs, v0 = .ref a ∧ F.h a = some (.lst vs) ∧ F.j a = .a ∧ Reps X.K F hs vs := by
    cases r0 with
    | lst s ja l r => exact ⟨_, _, rfl, s, ja, r⟩
  obtain ⟨v1, g2, r1⟩ := rl.sh iL _ hls
  obtain ⟨b, a1, a2, us, rfl, sb, jb, o1, s2, j2⟩ : ∃ b a1 a2 us, v1 = .ref b ∧ F.h b = some (.lst [.ref a1, .ref a2]) ∧ F.j b = .a ∧ IsO F a1 ∧ F.h a2 = some (.lst us) ∧ F.j a2 = .j := by
    cases r1 with
    | lst s ja l r =>
      cases r with
      | cons rp rr =>
        cases rr with
        | cons rm rn =>
          cases rn
          obtain ⟨q, rfl, o⟩ := muT_is hps rp
          cases rm with
          | mu s2 j2 l2 r2 => exact ⟨_, q, _, _, rfl, s, ja, o, s2, j2⟩
  have vl : vs.length ≤ 40 := by rw [r.length]; exact hl
  have ha := fh _ _ sa
  have ka : clsF F H a = .k := cls_k fh ha (by rw [ja]; exact fun z => nomatch z)
  refine ⟨_, g1, _, rfl, ⟨_, SqL.of ha⟩, ?_⟩
  refine for_it (walk_list (K := X.K) (a := a) (xs := vs)) (fun k σ' H' => offJ [iP] σ σ' ∧ k ≤ vs.length ∧ KpS (clsF F H) H H' ∧ IvS (clsF F H) (20 + k) (20 + 200 * k) H') ⟨⟨rfl, fun _ _ => rfl⟩, Nat.zero_le _, .refl, cls_inv fh⟩ ?_ ?_ ?_
  · rintro k σ' H' _ ⟨_, _, kp, _⟩
    exact SqL.of (kp.1 _ _ ha ka)
  · rintro k v σ' H' H'' hk ⟨so, _, kp, iv⟩ ⟨rfl, hy⟩
    obtain ⟨d, k1, k2⟩ := r.get' hy
    obtain ⟨rows, move, steer, push, add, z, rfl, m1, m2, m3, m4, m5⟩ := hok d (List.mem_of_getElem? k1)
    cases k2 with
    | @lst p ws _ sp jp lp rp =>
      cases rp with
      | cons q1 rp => cases rp with
        | cons q2 rp => cases rp with
          | cons q3 rp => cases rp with
            | cons q4 rp => cases rp with
              | cons q5 rp => cases rp with
                | cons q6 rp =>
                  cases rp
                  cases q6
                  obtain ⟨p1, rfl, o1'⟩ := muT_is m1 q1
                  obtain ⟨p2, rfl, o2⟩ := muL_is m2 q2
                  obtain ⟨p3, rfl, o3, _⟩ := muI_is m3 q3
                  obtain ⟨p4, rfl, o4⟩ := muL_is m4 q4
                  obtain ⟨p5, rfl, o5, _⟩ := muI_is m5 q5
                  have hp0 := fh _ _ sp
                  have kpp : clsF F H p = .k := cls_k fh hp0 (by rw [jp]; exact fun z => nomatch z)
                  have il' : iP < σ'.length := by rw [so.1]; exact il
                  refine ⟨_, List.getElem?_set_self il', ?_⟩
                  refine ⟨clsF F H, 20 + k, 20 + 200 * k, p, p1, p2, p3, p4, p5, z, rfl, kp.1 _ _ hp0 kpp, kpp, cls_o fh o1', cls_o fh o3, cls_o fh o5, cls_a fh o2, cls_a fh o4, iv, by omega, by omega, fun H3 iv3 kp3 => ?_⟩
                  refine ⟨⟨by rw [List.length_set]; exact so.1, fun k' hk' => ?_⟩, hk, kp.trans kp3, iv3.mono (by omega) (by omega)⟩
                  rw [List.getElem?_set_ne (fun z => hk' (by rw [← z]; exact List.mem_singleton.mpr rfl))]
                  exact so.2 k' hk'
  · rintro σ' H' ⟨so, _, kp, iv⟩
    have gL : σ'[iL]? = some (some (.ref b)) := by
      rw [so.2 iL (fun z => pL (List.mem_singleton.mp z).symm)]; exact g2
    have hb0 := fh _ _ sb
    have hb := kp.1 _ _ hb0 (cls_k fh hb0 (by rw [jb]; exact fun z => nomatch z))
    obtain ⟨ys, hy, yl⟩ := iv.os a1 (cls_o fh o1)
    have ch : Chg F H H' := ⟨fun p o e n => kp.1 p o e (cls_k fh e n)⟩
    have nz : ∀ {p : Addr} {o : HO}, H' p = some o → ∀ {q : Addr}, H' q = none → q ≠ p := fun e _ n z => by rw [z, e] at n; cases n
    obtain ⟨us2, hu⟩ : ∃ us2, H' a2 = some (.lst us2) := by
      have h2 := fh _ _ s2
      cases z : clsF F H a2 with
      | k => exact ⟨us, kp.1 _ _ h2 z⟩
      | a =>
        obtain ⟨ws, w, _⟩ := iv.as a2 z
        exact ⟨ws, w⟩
      | o =>
        obtain ⟨ws, w, _⟩ := iv.os a2 z
        exact ⟨ws, w⟩
      | n =>
        exfalso
        unfold clsF at z
        rw [if_neg (by rw [h2]; exact fun z => nomatch z)] at z
        split at z
        · cases z
        · split at z <;> cases z
    refine ⟨_, gL, .inl ⟨b, _, 0, .ref a1, rfl, rfl, SqL.of hb, rfl, .inl ⟨rfl, ys, SqL.of hy⟩, ?_⟩⟩
    refine c2 σ' H' _ fun v H1 s => ?_
    refine ⟨a1, ys, v, rfl, rfl, s _ _ hy, by rw [sizeLine_eq]; omega, ?_⟩
    obtain ⟨us3, hu3⟩ : ∃ us3, (L2.upd H1 a1 (.lst (ys ++ [v]))) a2 = some (.lst us3) := by
      by_cases z : a2 = a1
      · rw [z]; exact ⟨_, upd_same⟩
      · rw [upd_ne z]; exact ⟨_, s _ _ hu⟩
    have b1 : b ≠ a1 := fun z => by
      have := o1.1
      rw [← z, jb] at this
      cases this
    refine ⟨_, gL, .inl ⟨b, [.ref a1, .ref a2], 1, .ref a2, rfl, rfl, SqL.of (by rw [upd_ne b1]; exact s _ _ hb), rfl, .inl ⟨rfl, us3, SqL.of hu3⟩, a2, us3, rfl, rfl, hu3, nx σ' _ so ⟨fun p o e n => ?_⟩⟩⟩
    rw [upd_ne (fun z => n (by rw [z]; exact j2)), upd_ne (fun z => n (by rw [z]; exact o1.1))]
    exact s _ _ (ch.keep p o e n)
end Dl

/-! The D-layer, more: two lists and a list of both, compared with a list of copies. -/
namespace Dl
open PySem PySem.Spec
open PyProof.Rows L2
def rNeOwn : R2 := fun x y H Q => ∃ (l b a1 a2 p m : Addr) (vs ws : List V), x = .ref l ∧ y = .ref b ∧ H l = some (.lst [.ref a1, .ref a2]) ∧ H b = some (.lst [.ref p, .ref m]) ∧ H a1 = some (.lst vs) ∧ H p = some (.lst vs) ∧ H a2 = some (.lst ws) ∧ H m = some (.lst ws) ∧ (∀ v ∈ vs, ∃ q, v = .ref q) ∧ (∀ v ∈ ws, ∃ q, v = .ref q) ∧ Q (.bl false) H
theorem refs_same : ∀ {xs : List V} {us ws : List Value}, (∀ v ∈ xs, ∃ q, v = V.ref q) → Vals xs us → Vals xs ws → us = ws
  | _, _, _, _, .nil, .nil => rfl
  | x :: xs, u :: us, w :: ws, h, .cons r1 r2, .cons s1 s2 => by
    obtain ⟨q, rfl⟩ := h x List.mem_cons_self
    cases r1; cases s1
    rw [refs_same (fun v hv => h v (List.mem_cons_of_mem _ hv)) r2 s2]
section
variable {X : Cx} {W : WX}
theorem op_neOwn (hu : X.A.units + 64 < cLine) : OpR X (compareOp .NotEq) rNeOwn := by
  intro pins s σ H x y v u Q I rx ry h
  obtain ⟨l, b, a1, a2, p, m, vs, ws, rfl, rfl, hl, hb, h1, h2, h3, h4, r1, r2, q⟩ := h
  cases rx; cases ry
  obtain ⟨its, rv, pl, _⟩ := I.list (SqL.of hl)
  obtain ⟨its2, rv2, pl2, _⟩ := I.list (SqL.of hb)
  have e1 : its = [.ref a1, .ref a2] := refs_same (fun v hv => by
    rcases List.mem_cons.mp hv with rfl | hv
    · exact ⟨_, rfl⟩
    · exact ⟨_, List.mem_singleton.mp hv⟩) rv (.cons rfl (.cons rfl .nil))
  have e2 : its2 = [.ref p, .ref m] := refs_same (fun v hv => by
    rcases List.mem_cons.mp hv with rfl | hv
    · exact ⟨_, rfl⟩
    · exact ⟨_, List.mem_singleton.mp hv⟩) rv2 (.cons rfl (.cons rfl .nil))
  subst e1 e2
  have un : X.A.in1.units < cLine := by
    show X.A.units + 1 < cLine
    omega
  have eq : ∀ {a c : Addr} {xs : List V}, H a = some (.lst xs) → H c = some (.lst xs) → (∀ v ∈ xs, ∃ q, v = V.ref q) → SeqAt.EqAt X.A.in1 s (.ref a) (.ref c) true := fun {a c xs} ha hc hx => by
    by_cases z : a = c
    · subst z; exact SeqAt.EqAt.same _
    · obtain ⟨is1, v1, w1, _⟩ := I.list (SqL.of ha)
      obtain ⟨is2, v2, w2, _⟩ := I.list (SqL.of hc)
      have e := refs_same hx v1 v2
      subst e
      refine SeqAt.EqAt.of_refs z ?_
      have k := SeqAt.RcAt.lists (A := X.A.in1) (e := fun _ => true) w1.isList w2.isList rfl un fun j _ _ => SeqAt.EqAt.same _
      rw [show ((List.range is1.toArray.size).all fun _ => true) = true from by simp] at k
      exact k
  refine SeqAt.RcNeAt.lists (A := X.A) (e := fun _ => true) pl.isList pl2.isList rfl (by omega) (fun j k1 k2 => ?_) X.prog X.w X.xe _ ⟨.bl false, H, I, rfl, q⟩
  have k1 : j < 2 := k1
  match j, k1 with
  | 0, _ => exact eq h1 h2 r1
  | 1, _ => exact eq h3 h4 r2
theorem reps_refs {K : PySem.W.Frag} {F : Fz} {ds : List D} {vs : List V} (r : Reps K F ds vs) (h : (∀ x ∈ ds, ∃ es, x = D.tup es) ∨ ∀ x ∈ ds, ∃ C fs, x = D.ins C fs) : ∀ v ∈ vs, ∃ q, v = V.ref q := fun v hv => by
  obtain ⟨k, hk⟩ := List.getElem?_of_mem hv
  obtain ⟨d, k1, k2⟩ := r.get' hk
  rcases h with h | h
  · obtain ⟨es, rfl⟩ := h d (List.mem_of_getElem? k1)
    cases k2 with
    | tup s l r => exact ⟨_, rfl⟩
  · obtain ⟨C, fs, rfl⟩ := h d (List.mem_of_getElem? k1)
    cases k2 with
    | ins s r => exact ⟨_, rfl⟩
def dOwn3 (iL iP iM iT : Nat) (te : TD) (tA tC : TDb) (u : DS) : DS := fun d ρ => iL < ρ.length ∧ iL ≠ iP ∧ iL ≠ iM ∧ iT ≠ iL ∧ iT ≠ iP ∧ iT ≠ iM ∧ ∃ ps ms : List Dl.D, ρ[iP]? = some (.sh (.lst ps)) ∧ ρ[iM]? = some (.sh (.lst ms)) ∧ (∀ x ∈ ps, ∃ es, x = Dl.D.tup es) ∧ (∀ x ∈ ms, ∃ C fs, x = Dl.D.ins C fs) ∧
  te (ρ.set iL (.sh (.lst [.mu ps, .mu ms]))) (fun y => tA ((ρ.set iL (.sh (.lst [.mu ps, .mu ms]))).set iT (.sh y)) (fun b => ifP b (u d ((ρ.set iL (.sh (.lst [.mu ps, .mu ms]))).set iT (.sh y)))
    (tC ((ρ.set iL (.sh (.lst [.mu ps, .mu ms]))).set iT (.sh y)) (fun b => ifP b (u d ((ρ.set iL (.sh (.lst [.mu ps, .mu ms]))).set iT (.sh y))) (d.nx ((ρ.set iL (.sh (.lst [.mu ps, .mu ms]))).set iT (.sh y)))) (d.ex ((ρ.set iL (.sh (.lst [.mu ps, .mu ms]))).set iT (.sh y))))) (d.ex ((ρ.set iL (.sh (.lst [.mu ps, .mu ms]))).set iT (.sh y)))) (d.ex (ρ.set iL (.sh (.lst [.mu ps, .mu ms]))))
theorem rsj_own3 (iL iP iM iT : Nat) {l pu mo th : Str} {e a c : Expr} {te : TD} {tA tC : TDb} {body rest : List Stmt} {u v : DS} {np zp zp2 ap ap2 cp cp2 lp np2 qp qp2 qp3 lp2 cpp bp spos spos2 ipos : Pos}
    (hm : X.mg "list" = none) (hte : RE X W e te) (ha : RT X W a tA) (hc : RT X W c tC) (hb : RSs X W body u) (hr : RSj X W rest v) (hnd : X.N.Nodup) (hu : X.A.units + 64 < cLine)
    (hi : X.N[iL]? = some l := by rfl) (hj : X.N[iP]? = some pu := by rfl) (hk : X.N[iM]? = some mo := by rfl) (ht : X.N[iT]? = some th := by rfl)
    (hx : Loc X.env.scope l := by first | exact Or.inl rfl | exact Or.inr rfl) (hf : X.fn l = true ∨ X.env.scope.names.lookup l = some .local := by first | exact .inl rfl | exact .inr rfl)
    (hxt : Loc X.env.scope th := by first | exact Or.inl rfl | exact Or.inr rfl) (hft : X.fn th = true ∨ X.env.scope.names.lookup th = some .local := by first | exact .inl rfl | exact .inr rfl)
    (hv : Vis X.env.scope l := by first | exact Or.inl rfl | exact Or.inr (Or.inl rfl) | exact Or.inr (Or.inr rfl))
    (hvp : Vis X.env.scope pu := by first | exact Or.inl rfl | exact Or.inr (Or.inl rfl) | exact Or.inr (Or.inr rfl))
    (hvm : Vis X.env.scope mo := by first | exact Or.inl rfl | exact Or.inr (Or.inl rfl) | exact Or.inr (Or.inr rfl))
    (hd : (l == ("__debug__" : Str)) = false := by decide) (hcd : (l == ("__classdict__" : Str)) = false := by decide)
    (hdp : (pu == ("__debug__" : Str)) = false := by decide) (hcdp : (pu == ("__classdict__" : Str)) = false := by decide)
    (hdm : (mo == ("__debug__" : Str)) = false := by decide) (hcdm : (mo == ("__classdict__" : Str)) = false := by decide)
    (hg : Gl X "list" := by rfl)
    (he1 : starEach [.Name pu ap] X.env = (false, eval (.Name pu ap) X.env) :: starEach [] X.env := by rfl) (hpl1 : (backTo cp (starEach [] X.env)).any (·.1) = false := by rfl)
    (he2 : starEach [.Name mo ap2] X.env = (false, eval (.Name mo ap2) X.env) :: starEach [] X.env := by rfl) (hpl2 : (backTo cp2 (starEach [] X.env)).any (·.1) = false := by rfl)
    (he3 : starEach [.Call (.Name "list" zp) [.Name pu ap] [] cp, .Call (.Name "list" zp2) [.Name mo ap2] [] cp2] X.env = (false, eval (.Call (.Name "list" zp) [.Name pu ap] [] cp) X.env) :: starEach [.Call (.Name "list" zp2) [.Name mo ap2] [] cp2] X.env := by rfl)
    (he4 : starEach [.Call (.Name "list" zp2) [.Name mo ap2] [] cp2] X.env = (false, eval (.Call (.Name "list" zp2) [.Name mo ap2] [] cp2) X.env) :: starEach [] X.env := by rfl)
    (he5 : starEach [.Name pu qp2, .Name mo qp3] X.env = (false, eval (.Name pu qp2) X.env) :: starEach [.Name mo qp3] X.env := by rfl) (he6 : starEach [.Name mo qp3] X.env = (false, eval (.Name mo qp3) X.env) :: starEach [] X.env := by rfl)
    (hs : swapsWithSole [.Name l np] (.List [.Call (.Name "list" zp) [.Name pu ap] [] cp, .Call (.Name "list" zp2) [.Name mo ap2] [] cp2] lp) spos.line X.env = pure false := by rfl) (hw : swappedStores [.Name l np] (.List [.Call (.Name "list" zp) [.Name pu ap] [] cp, .Call (.Name "list" zp2) [.Name mo ap2] [] cp2] lp) X.env = pure none := by rfl)
    (hs1 : (assignEach [.Name l np] X.env).map (·.2) = [assign (.Name l np) X.env] := by rfl)
    (ht1 : swapsWithSole [.Name th np2] e spos2.line X.env = pure false := by rfl) (ht2 : swappedStores [.Name th np2] e X.env = pure none := by rfl) (ht3 : (assignEach [.Name th np2] X.env).map (·.2) = [assign (.Name th np2) X.env] := by rfl)
    (hmk : behindInMarks .NotEq (.List [.Name pu qp2, .Name mo qp3] lp2) = false := by first | exact nomark _ | rfl) :
    RSj X W (.Assign [.Name l np] (.List [.Call (.Name "list" zp) [.Name pu ap] [] cp, .Call (.Name "list" zp2) [.Name mo ap2] [] cp2] lp) spos :: .Assign [.Name th np2] e spos2 ::
      .If (.BoolOp .Or [a, .Compare (.Name l qp) [.NotEq] [.List [.Name pu qp2, .Name mo qp3] lp2] cpp, c] bp) body [] ipos :: rest) (dSq (dOwn3 iL iP iM iT te tA tC u) v) := by
  obtain ⟨t1, e1, e2⟩ := hte.run
  obtain ⟨ta, a1, a2⟩ := ha.run
  obtain ⟨tc, c1, c2⟩ := hc.run
  obtain ⟨tb, b1, b2⟩ := hb.run
  obtain ⟨t3, r1, r2⟩ := hr.run
  refine ⟨_, pss_cons (ps_asg (pe_lst (pa_cons (pe_callTy call_list_of hg hm (by decide +kernel) (pa_cons (pe_var hj hvp hdp hcdp) pa_nil he1) (by decide) (by decide) he1 hpl1) (pa_cons (pe_callTy call_list_of hg hm (by decide +kernel) (pa_cons (pe_var hk hvm hdm hcdm) pa_nil he2) (by decide) (by decide) he2 hpl2) pa_nil he4) he3)) (pg_name hnd hi hx hf) hs hw hs1)
    (pss_cons (ps_asg e1 (pg_name hnd ht hxt hft) ht1 ht2 ht3)
    (pss_cons (ps_if (PW.pt (pw_or a1 (pw_or (pt_cmpR (op_neOwn hu) (pe_var hi hv hd hcd) (pe_lst (pa_cons (pe_var hj hvp hdp hcdp) (pa_cons (pe_var hk hvm hdm hcdm) pa_nil he6) he5)) hmk) (pw_or1 c1)))) b1 pss_nil) r1)), fun F0 H0 ρ σ F H D d n0 en cc q => ?_⟩
  obtain ⟨il, lp, lm, tl, tp, tm, ps, ms, hps, hms, ops, oms, q⟩ := q
  obtain ⟨v1, g1, rp⟩ := en.rl.sh iP _ hps
  obtain ⟨v2, g2, rm⟩ := en.rl.sh iM _ hms
  obtain ⟨p, vs, rfl, sp, lvs, rvs⟩ : ∃ p vs, v1 = .ref p ∧ F.h p = some (.lst vs) ∧ vs.length ≤ sizeLine ∧ Reps X.K F ps vs := by
    cases rp with
    | lst s ja l r => exact ⟨_, _, rfl, s, l, r⟩
  obtain ⟨m, ws, rfl, sm, lws, rws⟩ : ∃ p vs, v2 = .ref p ∧ F.h p = some (.lst vs) ∧ vs.length ≤ sizeLine ∧ Reps X.K F ms vs := by
    cases rm with
    | lst s ja l r => exact ⟨_, _, rfl, s, l, r⟩
  refine ⟨_, g1, p, vs, rfl, .inl (SqL.of (en.rl.fh _ _ sp)), fun x1 n1 => ?_⟩
  have go1 : Go F H (F.updJ x1 vs) (L2.upd H x1 (.lst vs)) := (go_new en.rl.fh n1).freezeJ n1 upd_same (en.rl.fh.free n1)
  generalize hF1 : F.updJ x1 vs = F1 at go1
  generalize hH1 : L2.upd H x1 (.lst vs) = H1 at go1
  have f1 : F1.h x1 = some (.lst vs) ∧ F1.j x1 = .j := by rw [← hF1]; exact ⟨upd_same, Fz.updJ_p _ _ _⟩
  have en1 := en.step go1
  refine ⟨_, g2, m, ws, rfl, .inl (SqL.of (go1.fh _ _ (go1.ff.s _ _ sm))), fun x2 n2 => ?_⟩
  have go2 : Go F1 H1 (F1.updJ x2 ws) (L2.upd H1 x2 (.lst ws)) := (go_new go1.fh n2).freezeJ n2 upd_same (go1.fh.free n2)
  generalize hF2 : F1.updJ x2 ws = F2 at go2
  generalize hH2 : L2.upd H1 x2 (.lst ws) = H2 at go2
  have f2 : F2.h x2 = some (.lst ws) ∧ F2.j x2 = .j := by rw [← hF2]; exact ⟨upd_same, Fz.updJ_p _ _ _⟩
  have en2 := en1.step go2
  refine ⟨by show 2 ≤ sizeLine; decide, fun x3 n3 => ?_⟩
  have rx1 : Rep X.K F2 (.mu ps) (.ref x1) := .mu (go2.ff.s _ _ f1.1) ((go2.ff.j _ (ne_some f1.1)).trans f1.2) lvs ((rvs.mono go1.ff).mono go2.ff)
  have rx2 : Rep X.K F2 (.mu ms) (.ref x2) := .mu f2.1 f2.2 lws ((rws.mono go1.ff).mono go2.ff)
  obtain ⟨go3, r3⟩ := Go.lst go2.fh (.cons rx1 (.cons rx2 .nil)) (by show 2 ≤ sizeLine; decide) n3
  generalize hF3 : F2.upd x3 (.lst [.ref x1, .ref x2]) = F3 at go3 r3
  generalize hH3 : L2.upd H2 x3 (.lst [.ref x1, .ref x2]) = H3 at go3
  have f3 : F3.h x3 = some (.lst [.ref x1, .ref x2]) := by rw [← hF3]; exact upd_same
  have en3 := (en2.step go3).set iL r3
  have ff : SameF F F3 := (go1.ff.trans go2.ff).trans go3.ff
  have f13 : F3.h x1 = some (.lst vs) := (go2.ff.trans go3.ff).s _ _ f1.1
  have f23 : F3.h x2 = some (.lst ws) := go3.ff.s _ _ f2.1
  -- the thing
  refine e2 _ _ F3 H3 _ _ _ en3.rl (cc.ex _ _ F3 H3 en3) (fun y w F4 H4 g4 r4 q4 => ?_) q
  have en4 := (en3.step g4).set iT r4
  have ff4 := ff.trans g4.ff
  refine a2 _ _ F4 H4 _ _ _ en4.rl (cc.ex _ _ F4 H4 en4) (fun b F5 H5 g5 q5 => ?_) q4
  have en5 := en4.step g5
  have ce : ∀ {F' : Fz} {H' : Hp}, Ent X.K F0 H0 ((ρ.set iL (.sh (.lst [.mu ps, .mu ms]))).set iT (.sh y)) ((σ.set iL (some (.ref x3))).set iT (some w)) F' H' → u { d with nx := v d } ((ρ.set iL (.sh (.lst [.mu ps, .mu ms]))).set iT (.sh y)) → tb _ _ H' := fun {F' H'} en q => b2 F0 H0 _ _ F' H' { D with nx := t3 D } { d with nx := v d } en ⟨fun ρ σ F H e q => r2 F0 H0 ρ σ F H D d n0 e cc q, cc.rt, cc.bk, cc.ct, cc.ex, cc.rt1, cc.rt2⟩ q
  have lS : iL < σ.length := by rw [← en.rl.len]; exact il
  have gL : ((σ.set iL (some (V.ref x3))).set iT (some w))[iL]? = some (some (.ref x3)) := by
    rw [List.getElem?_set_ne tl]; exact List.getElem?_set_self lS
  have gP : ((σ.set iL (some (V.ref x3))).set iT (some w))[iP]? = some (some (.ref p)) := by
    rw [List.getElem?_set_ne tp, List.getElem?_set_ne lp]; exact g1
  have gM : ((σ.set iL (some (V.ref x3))).set iT (some w))[iM]? = some (some (.ref m)) := by
    rw [List.getElem?_set_ne tm, List.getElem?_set_ne lm]; exact g2
  cases b with
  | true => exact ce en5 q5
  | false =>
    have up : ∀ {a : Addr} {o : HO}, F3.h a = some o → H5 a = some o := fun e => g5.fh _ _ (g5.ff.s _ _ (g4.ff.s _ _ e))
    refine ⟨_, gL, _, gP, _, gM, by show 2 ≤ sizeLine; decide, fun x4 n4 => ?_⟩
    have old : ∀ {a : Addr} {o : HO}, F3.h a = some o → (L2.upd H5 x4 (.lst [.ref p, .ref m])) a = some o := fun {a o} e => by
      rw [upd_ne (fun z => by rw [z] at e; rw [up e] at n4; cases n4)]; exact up e
    have go6 : Go F5 H5 F5 (L2.upd H5 x4 (.lst [.ref p, .ref m])) := go_new g5.fh n4
    have en6 := en5.step go6
    refine ⟨x3, x4, x1, x2, p, m, vs, ws, rfl, rfl, old f3, upd_same, old f13, old (ff.s _ _ sp), old f23, old (ff.s _ _ sm), reps_refs rvs (.inl ops), reps_refs rws (.inr oms), false, rfl, ?_⟩
    refine c2 _ _ F5 _ _ _ _ en6.rl (cc.ex _ _ F5 _ en6) (fun b F7 H7 g7 q7 => ?_) q5
    have en7 := en6.step g7
    cases b with
    | true => exact ce en7 q7
    | false => exact r2 F0 H0 _ _ F7 H7 D d n0 en7 cc q7
/-- a list that may be changed == [], whatever is in it -/
def kEqZM : KD := fun x y Q => match x, y with
  | .mu (_ :: _), .lst [] => Q (.bl false)
  | x, y => kEqZ x y Q
theorem opd_eqZM (hu : X.A.units + 64 < cLine) : OpD X (compareOp .Eq) kEqZM := by
  have base : OpD X (compareOp .Eq) (fun x y Q => match x, y with | .mu (_ :: _), .lst [] => Q (.bl false) | _, _ => False) := by
    refine ⟨_, op_eqLen hu, fun x y vx vy F H Qd Q e px py kk q => ?_⟩
    dsimp only at q
    split at q
    · obtain ⟨p, vs, rfl, h1, l1, r1⟩ := px.mu e
      obtain ⟨p', vs', rfl, h1', l1', r1'⟩ := py.lst e
      refine ⟨p, p', vs, vs', rfl, rfl, SqL.of h1, SqL.of h1', ?_, kk _ _ F H (.refl e) (.bl _) q⟩
      rw [r1.length, r1'.length]
      exact fun z => nomatch z
    · exact q.elim
  refine (base.or (opd_eqZ hu)).imp fun x y Q h => ?_
  unfold kEqZM at h
  split at h
  · exact .inl h
  · exact .inr h
end
end Dl

/-! Rules, part 1: three methods that call one another; rules as trees. -/
namespace Dl
open PySem PySem.Spec
open PyProof.Rows L2
/-! ### rules -/
inductive Ru where
  | st (f : Nat → Int) (a d : Int)
  | sp (r : Ru) (lo hi : Int)
  | pa (w : Nat → Int) (r o : Ru)
def Ru.dep : Ru → Nat
  | .st .. => 0
  | .sp r _ _ => r.dep + 1
  | .pa _ r o => max r.dep o.dep + 1
def Ru.cnt : Ru → Nat
  | .st .. => 1
  | .sp r _ _ => 3 * r.cnt
  | .pa _ r o => r.cnt + o.cnt
/-- rules of numbers that are not great -/
def Ru.ok : Ru → Prop
  | .st f a d => (∀ j, bnd 101 (f j)) ∧ bnd 101 a ∧ 1 ≤ d ∧ bnd 31 d
  | .sp r lo hi => r.ok ∧ bnd 101 lo ∧ bnd 101 hi ∧ lo ≤ hi
  | .pa w r o => (∀ j, bnd 101 (w j)) ∧ r.ok ∧ o.ok
abbrev Lf := (Nat → Int) × Int × Int
end Dl

/-! Rules, part 2: what the methods do. -/
namespace Dl
open PySem PySem.Spec
open PyProof.Rows L2

open Lp
structure RuK (K : PySem.W.Frag) (C_Straight C_Stopped C_Parted C_Rule : Addr) : Prop where
  f_Straight_numbers : FldOk K C_Straight "numbers"
  f_Straight_add : FldOk K C_Straight "add"
  f_Straight_divisor : FldOk K C_Straight "divisor"
  f_Stopped_rule : FldOk K C_Stopped "rule"
  f_Stopped_low : FldOk K C_Stopped "low"
  f_Stopped_high : FldOk K C_Stopped "high"
  f_Parted_row : FldOk K C_Parted "row"
  f_Parted_rule : FldOk K C_Parted "rule"
  f_Parted_other : FldOk K C_Parted "other"
  i_Straight : InsTy K C_Straight
  i_Stopped : InsTy K C_Stopped
  i_Parted : InsTy K C_Parted
  k_Straight_Rule : PySem.W.kitOne K (.ref C_Straight) (.ref C_Rule) = some true
  k_Stopped_Rule : PySem.W.kitOne K (.ref C_Stopped) (.ref C_Rule) = some true
  k_Parted_Rule : PySem.W.kitOne K (.ref C_Parted) (.ref C_Rule) = some true

/-! ### what a rule tells at a point -/
/-! ### the three methods of a rule, one promise -/
/-! ### pieces -/
abbrev Pc := List (Nat → Int) × Lf
def okLf (l : Lf) : Prop := (∀ j, bnd 101 (l.1 j)) ∧ bnd 101 l.2.1 ∧ 1 ≤ l.2.2 ∧ bnd 31 l.2.2
def okPc (k : Nat) (p : Pc) : Prop := p.1.length ≤ k ∧ (∀ r ∈ p.1, ∀ j, bnd 135 (r j)) ∧ okLf p.2
theorem okPc.mono {k m : Nat} {p : Pc} (h : okPc k p) (z : k ≤ m) : okPc m p := ⟨Nat.le_trans h.1 z, h.2⟩
/-! ### cut -/
end Dl

/-! Rules, part 3: what their laws draw. -/
namespace Dl
open PySem PySem.Spec
open PyProof.Rows L2


abbrev g_stream31 : DF := fun ds Q _ => ∃ (c : Int) (m : Nat), ds = [.int c, .int m] ∧ m ≤ 1000 ∧ ∀ X : Nat → Int, (∀ j, 0 ≤ X j ∧ X j < 2147483647) → Q (.lst (tabD m X))
abbrev N_stream31 : List Str := ["_law_cell", "_law_many", "_law_found", "_law_rest", "_law_k", "_law_number_here"]
def tb_stream31  : DS :=
  (dSq (dOwn 2 (dLstN dNil)) (dSq (dIf (dTest (dOp kGe (dVarP 0) (dOp kPow (dC (.int 10)) (dC (.int 30))))) (dSq (dSet 3 (dOp kSub (dVarP 0) (dOp kPow (dC (.int 10)) (dC (.int 30))))) (dSq (dFor (dRng1 (dVarP 1)) (gNm 4) (dSq (dApp 2 (dOp kMod (dVarP 3) (dC (.int 2147483647)))) (dSet 3 (dOp kDiv (dVarP 3) (dC (.int 2147483647)))))) (dFrz 2 (dRet (dVar 2))))) dNext) (dSq (dSet 5 (dOp kAdd (dOp kMod (dVarP 0) (dC (.int 2147483647))) (dC (.int 48271)))) (dSq (dFor (dRng1 (dOp kAdd (dVarP 1) (dC (.int 2)))) (gNm 4) (dSq (dSet 5 (dOp kMod (dOp kAdd (dOp kAdd (dOp kMul (dVarP 5) (dVarP 5)) (dOp kMul (dC (.int 48271)) (dVarP 5))) (dVarP 4)) (dC (.int 2147483647)))) (dApp 2 (dVar 5)))) (dRet (dSl (dVarP 2) (dPart (dC (.int 2))) dNoPart))))))

theorem s31_a {d : DE} {a b : Sl} {M : Nat} : ∀ (t k i : Nat) (F : Nat → Int) (rest : Int) (s4 : Sl), M ≤ 1000 → k + t = M → (∀ j, 0 ≤ F j ∧ F j < 2147483647) →
    (∀ (F : Nat → Int) (s3 s4 : Sl), (∀ j, 0 ≤ F j ∧ F j < 2147483647) → d.nx [a, b, .ow (tabD M F), s3, s4, .no]) →
    loopD (gNm 4) (dSq (dApp 2 (dOp kMod (dVarP 3) (dC (.int 2147483647)))) (dSet 3 (dOp kDiv (dVarP 3) (dC (.int 2147483647))))) d (irg i t) [a, b, .ow (tabD k F), .sh (.int rest), s4, .no]
  | 0, k, i, F, rest, s4, hM, hk, hF, h => by
    have e : k = M := by omega
    subst e
    exact lp_r0 (h F _ _ hF)
  | t + 1, k, i, F, rest, s4, hM, hk, hF, h => by
    refine lp_rs ?_
    walk_at "rd"
    walk_at "go"
    rw [tab_snoc]
    walk_at "go"
    refine s31_a t (k + 1) (i + 1) _ _ _ hM (by omega) (fun j => ?_) h
    by_cases hj : j = k
    · rw [if_pos hj]
      exact ⟨Int.fmod_nonneg_of_pos _ (by omega), Int.fmod_lt_of_pos _ (by omega)⟩
    · rw [if_neg hj]; exact hF j
theorem s31_b {d : DE} {a b s3 : Sl} {M : Nat} : ∀ (t k i : Nat) (F : Nat → Int) (x : Int) (s4 : Sl), M ≤ 2000 → i + t ≤ 2000 → k + t = M → (0 ≤ x ∧ x < 4294967296) → (∀ j, 0 ≤ F j ∧ F j < 2147483647) →
    (∀ (F : Nat → Int) (s4 s5 : Sl), (∀ j, 0 ≤ F j ∧ F j < 2147483647) → d.nx [a, b, .ow (tabD M F), s3, s4, s5]) →
    loopD (gNm 4) (dSq (dSet 5 (dOp kMod (dOp kAdd (dOp kAdd (dOp kMul (dVarP 5) (dVarP 5)) (dOp kMul (dC (.int 48271)) (dVarP 5))) (dVarP 4)) (dC (.int 2147483647)))) (dApp 2 (dVar 5))) d (irg i t) [a, b, .ow (tabD k F), s3, s4, .sh (.int x)]
  | 0, k, i, F, x, s4, hM, hi, hk, hx, hF, h => by
    have e : k = M := by omega
    subst e
    exact lp_r0 (h F _ _ hF)
  | t + 1, k, i, F, x, s4, hM, hi, hk, hx, hF, h => by
    refine lp_rs ?_
    walk_at "rd"
    walk_at "go"
    rw [tab_snoc]
    walk_at "go"
    have hp : (0 : Int) < 2147483647 := by omega
    have m1 := Int.fmod_nonneg_of_pos (x * x + 48271 * x + i) hp
    have m2 := Int.fmod_lt_of_pos (x * x + 48271 * x + i) hp
    refine s31_b t (k + 1) (i + 1) _ _ _ hM (by omega) (by omega) ⟨m1, by omega⟩ (fun j => ?_) h
    by_cases hj : j = k
    · rw [if_pos hj]; exact ⟨m1, by omega⟩
    · rw [if_neg hj]; exact hF j
theorem rd_stream31 (ds : List D) (Q E : EQ) (_ : ds.length = 2) (h : g_stream31 ds Q E) : tb_stream31 (dE Q E) (startD N_stream31 ds) := by
  obtain ⟨c, m, rfl, hm, q⟩ := h
  unfold tb_stream31 dE
  walk_at "go"
  have t0 : ∀ G : Nat → Int, ([] : List D) = tabD 0 G := fun _ => rfl
  by_cases hc : (1000000000000000000000000000000 : Int) ≤ c
  · rw [decide_eq_true hc]
    walk_at "go"
    rw [t0 (fun _ => 0), Int.toNat_natCast]
    refine s31_a (M := m) m 0 0 _ _ _ (by omega) (by omega) (fun _ => ⟨by omega, by omega⟩) fun F s3 s4 hF => ?_
    walk_at "rd"
    exact q F hF
  · rw [decide_eq_false hc]
    walk_at "go"
    rw [t0 (fun _ => 0), show ((m : Int) + 2).toNat = m + 2 by omega]
    have hp : (0 : Int) < 2147483647 := by omega
    have m1 := Int.fmod_nonneg_of_pos c hp
    have m2 := Int.fmod_lt_of_pos c hp
    refine s31_b (M := m + 2) (m + 2) 0 0 _ _ _ (by omega) (by omega) (by omega) ⟨by omega, by omega⟩ (fun _ => ⟨by omega, by omega⟩) fun F s4 s5 hF => ?_
    walk_at "rd"
    rw [cut_2]
    exact q _ fun j => hF _
/-! ### cells of the script, or of a part of it -/
abbrev g_cellL : DF := fun ds Q _ => ∃ (ns : List Int) (k : Nat) (d : D), ds = [d, .int k] ∧ (d = .frl (ns.map .int) ∨ d = .lst (ns.map .int)) ∧ Q (.int (ns.getD k 0))
abbrev N_cellL : List Str := N__law_cell_at
abbrev tb_cellL : DS := tb__law_cell_at
theorem rd_cellL (ds : List D) (Q E : EQ) (_ : ds.length = 2) (h : g_cellL ds Q E) : tb_cellL (dE Q E) (startD N_cellL ds) := by
  obtain ⟨ns, k, d, rfl, hd, q⟩ := h
  rw [List.getD_eq_getElem?_getD] at q
  unfold tb_cellL tb__law_cell_at dE
  rcases hd with rfl | rfl
  all_goals
    walk_at "rd"
    rw [List.length_map]
    by_cases hk : k < ns.length
    · rw [decide_eq_true (by omega)]
      walk_at "rd"
      rw [atI_nn, List.getElem?_map, List.getElem?_eq_getElem hk]
      rw [List.getElem?_eq_getElem hk] at q
      exact q
    · rw [decide_eq_false (by omega)]
      walk_at "rd"
      rw [List.getElem?_eq_none (by omega)] at q
      exact q
/-! ### numbers -/
/-! ### fractions -/
end Dl

namespace K11
open PySem PySem.Spec
open PyProof.Rows L2 Dl
def topS (i : Nat) : Stmt := PySem.Challenge.pw_steadyhand_k11_a_thing_told.main.body.getD i (.Pass ⟨0, 0, 0, 0⟩)
/-! ### K11 -/
/-- what own copies of what is handed in -/
def ownD : D → D
  | .mu ys => .lst ys
  | d => d
def okOwn (d : D) : Prop := (∃ i, d = .int i) ∨ (∃ es, d = .tup es) ∨ ∃ ys, d = .mu ys
/-- a mode's parts, as drawn and as handed in -/
def parD (n p : Nat) (m : Md) : D := .lst [.lst (m.rows.map (rowW (n + 1))), .lst (lstL n n m.nexts), .lst (tabD n m.steer), .lst (lstL n p m.push), .lst (tabD n m.add), .int m.div]
def lstM (n w : Nat) (R : Mat) : List D := (List.range n).map fun k => .mu (tabD w (R k))
def mupD (n p : Nat) (m : Md) : D := .lst [.mu (m.rows.map (rowW (n + 1))), .mu (lstM n n m.nexts), .mu (tabD n m.steer), .mu (lstM n p m.push), .mu (tabD n m.add), .int m.div]
structure Md40 (m : Md) : Prop where
  few : m.rows.length ≤ 4
  rows : ∀ r ∈ m.rows, ∀ j, bnd 134 (r j)
  nexts : ∀ i j, bnd 134 (m.nexts i j)
  steer : ∀ i, bnd 134 (m.steer i)
  push : ∀ i j, bnd 134 (m.push i j)
  add : ∀ i, bnd 134 (m.add i)
  div : bnd 134 m.div
  pos : 1 ≤ m.div
structure Th40 (n : Nat) (ps : List (Int × Int)) (ms : List Md) : Prop where
  n1 : 1 ≤ n
  n3 : n ≤ 3
  p6 : ps.length ≤ 6
  up : ∀ q ∈ ps, q.1 ≤ q.2
  pb : ∀ q ∈ ps, bnd 140 q.1 ∧ bnd 140 q.2
  ne : ms ≠ []
  m40 : ms.length ≤ 40
  md : ∀ m ∈ ms, Md40 m
abbrev g_own_list : DF := fun ds Q _ => ∃ d, ds = [d] ∧ okOwn d ∧ Q (ownD d)
abbrev g_own : DF := fun ds Q _ => ∃ xs, ds = [.mu xs] ∧ (∀ x ∈ xs, okOwn x) ∧ Q (.lst (xs.map ownD))
abbrev g_Mode_init : DI := fun ds Q _ => ∃ (a b c d e : List D) (f : D), ds = [.mu a, .mu b, .mu c, .mu d, .mu e, f] ∧ (∀ x ∈ a, okOwn x) ∧ (∀ x ∈ b, okOwn x) ∧ (∀ x ∈ c, okOwn x) ∧ (∀ x ∈ d, okOwn x) ∧ (∀ x ∈ e, okOwn x) ∧ Q (mdF (.lst (a.map ownD)) (.lst (b.map ownD)) (.lst (c.map ownD)) (.lst (d.map ownD)) (.lst (e.map ownD)) f)
abbrev g_Thing_init (CM : Addr) : DI := fun ds Q _ => ∃ (n : Nat) (ps : List (Int × Int)) (ms : List Md), ds = [.int n, .mu (ps.map pD), .mu (ms.map (mdI CM n ps.length))] ∧ Th40 n ps ms ∧ Q (thF (.int n) (.lst (ps.map pD)) (.lst (ms.map (mdI CM n ps.length))))
abbrev g1_Thing_pushes (CT : Addr) : DF1 := fun ds Q _ => ∃ (m w : D) (ps : List D), ds = [.ins CT (thF m (.lst ps) w)] ∧ Q ps
abbrev g1_Thing_modes (CT : Addr) : DF1 := fun ds Q _ => ∃ (m b : D) (ws : List D), ds = [.ins CT (thF m b (.lst ws))] ∧ Q ws
abbrev g__law_number : DF := fun ds Q _ => ∃ (x : Int), ds = [.int x] ∧ 0 ≤ x ∧ x < 2147483647 ∧ ∀ y : Int, bnd 134 y → Q (.int y)
abbrev g__law_mode : DF := fun ds Q _ => ∃ (c : Int) (n p : Nat) (y : Int), ds = [.int c, .int n, .int p, .int y] ∧ 1 ≤ n ∧ n ≤ 3 ∧ p ≤ 6 ∧ ∀ m : Md, Md40 m → Q (parD n p m)
abbrev g__law_copied : DF := fun ds Q _ => ∃ (n p : Nat) (m : Md), ds = [parD n p m] ∧ n ≤ 3 ∧ p ≤ 6 ∧ Md40 m ∧ Q (mupD n p m)
abbrev g__law_same (CM : Addr) : DF := fun ds Q _ => ∃ (n p : Nat) (m : Md), ds = [mdI CM n p m, parD n p m] ∧ n ≤ 3 ∧ p ≤ 6 ∧ Md40 m ∧ Q (.bl true)
abbrev g__law_right (CM CT : Addr) : DF := fun ds Q _ => ∃ (n : Nat) (ps : List (Int × Int)) (ms : List Md), ds = [thI CT n ps (ms.map (mdI CM n ps.length)), .int n, .lst (ps.map pD), .lst (ms.map (parD n ps.length))] ∧ Th40 n ps ms ∧ Q (.bl true)
abbrev g_law : DF := gLaw 63
/-- what the top leaves: the built-in names are no names of the module, the defs and classes stand -/
structure Txt (K : PySem.W.Frag) (mg : Str → Option Value) (a_is_whole a_own a_own_list a_are_wholes a_is_row a_is_room a_is_table a_Mode_init a_is_mode a_is_push a_Thing_init a_Thing_pushes a_Thing_modes a_Thing_is_closed a_Thing_is_plain a__law_cell_at a__law_stream a__law_number a__law_mode a__law_copied a__law_spoil a__law_same a__law_right a_law C_Mode C_Thing : Addr) : Prop where
  b_all : mg "all" = none
  b_bool : mg "bool" = none
  b_int : mg "int" = none
  b_isinstance : mg "isinstance" = none
  b_len : mg "len" = none
  b_list : mg "list" = none
  b_range : mg "range" = none
  b_tuple : mg "tuple" = none
  b_zip : mg "zip" = none
  f_is_whole : mg "is_whole" = some (.ref a_is_whole)
  f_own : mg "own" = some (.ref a_own)
  f_own_list : mg "own_list" = some (.ref a_own_list)
  f_are_wholes : mg "are_wholes" = some (.ref a_are_wholes)
  f_is_row : mg "is_row" = some (.ref a_is_row)
  f_is_room : mg "is_room" = some (.ref a_is_room)
  f_is_table : mg "is_table" = some (.ref a_is_table)
  f_is_mode : mg "is_mode" = some (.ref a_is_mode)
  f_is_push : mg "is_push" = some (.ref a_is_push)
  f__law_cell_at : mg "_law_cell_at" = some (.ref a__law_cell_at)
  f__law_stream : mg "_law_stream" = some (.ref a__law_stream)
  f__law_number : mg "_law_number" = some (.ref a__law_number)
  f__law_mode : mg "_law_mode" = some (.ref a__law_mode)
  f__law_copied : mg "_law_copied" = some (.ref a__law_copied)
  f__law_spoil : mg "_law_spoil" = some (.ref a__law_spoil)
  f__law_same : mg "_law_same" = some (.ref a__law_same)
  f__law_right : mg "_law_right" = some (.ref a__law_right)
  f_law : mg "law" = some (.ref a_law)
  g_MOST_MODES : ∃ t, mg "MOST_MODES" = some (.int 40 t)
  g_MOST_NUMBERS : ∃ t, mg "MOST_NUMBERS" = some (.int 3 t)
  g_MOST_PUSHES : ∃ t, mg "MOST_PUSHES" = some (.int 6 t)
  c_Mode : mg "Mode" = some (.ref C_Mode)
  c_Thing : mg "Thing" = some (.ref C_Thing)
  l_Thing : Cls K C_Thing
  m_Thing_is_closed : Meth K C_Thing "is_closed" a_Thing_is_closed
  m_Thing_is_plain : Meth K C_Thing "is_plain" a_Thing_is_plain
  m_Thing_modes : Meth K C_Thing "modes" a_Thing_modes
  m_Thing_pushes : Meth K C_Thing "pushes" a_Thing_pushes
  kf_ThK : ThK K C_Mode C_Thing

abbrev g__law_stream : DF := g_stream31
abbrev g__law_cell_at : DF := g_cellL
section
variable {P : Program} {w : World} {K : PySem.W.Frag} {mg : Str → Option Value} {base : Heap} {a_is_whole a_own a_own_list a_are_wholes a_is_row a_is_room a_is_table a_Mode_init a_is_mode a_is_push a_Thing_init a_Thing_pushes a_Thing_modes a_Thing_is_closed a_Thing_is_plain a__law_cell_at a__law_stream a__law_number a__law_mode a__law_copied a__law_spoil a__law_same a__law_right a_law C_Mode C_Thing : Addr}
/-! ### is_whole -/
abbrev s_is_whole : Stmt := topS 5
theorem sc_is_whole : FnScope N_is_whole ["thing"] (defScope s_is_whole) := ⟨rfl, rfl, rfl, by decide +kernel, rfl, by decide +kernel, by decide +kernel⟩
theorem der_is_whole (T : Txt K mg a_is_whole a_own a_own_list a_are_wholes a_is_row a_is_room a_is_table a_Mode_init a_is_mode a_is_push a_Thing_init a_Thing_pushes a_Thing_modes a_Thing_is_closed a_Thing_is_plain a__law_cell_at a__law_stream a__law_number a__law_mode a__law_copied a__law_spoil a__law_same a__law_right a_law C_Mode C_Thing) 
    {f : Addr} {cdv : Value} {A : Around} {outer : List Env} {s : Shared} {H : Hp} {E : XK} (hr : Room 0 (A.deeper (envOfC "is_whole" (defScope s_is_whole) s.heap.objs.size f cdv))) :
    RSs (cxOf (L2.CX P w) P w K mg base N_is_whole "is_whole" (defScope s_is_whole) f cdv A outer s H E) (WF E) (defBody s_is_whole) (tb_is_whole K) :=
  (rss_one (rs_ret (re_and (RE.p (re_callB (cd_isi (K := K)) T.b_isinstance (rpa_cons (rp_var 0) (rpa_cons (RE.p (re_ty T.b_int (by decide +kernel))) rpa_nil)))) (re_one (re_not (RE.p (re_callB (cd_isi (K := K)) T.b_isinstance (rpa_cons (rp_var 0) (rpa_cons (RE.p (re_ty T.b_bool (by decide +kernel))) rpa_nil)))))))))
/-! ### own -/
abbrev s_own : Stmt := topS 10
abbrev N_own : List Str := ["thing", "one"]
theorem sc_own : FnScope N_own ["thing"] (defScope s_own) := ⟨rfl, rfl, rfl, by decide +kernel, rfl, by decide +kernel, by decide +kernel⟩
def tb_own (K : PySem.W.Frag) : DS :=
  (dSq (dIf (dNot (dTest (dCB (kIsi K) (dCons (dVarP 0) (dCons (dC (.ty "list")) dNil))))) (dRet (dVar 0)) dNext) (dRet (dFz (dLcN (dSeq (dVar 0)) (gNm 1) dYes (dCall 1 [] g_own_list (dCons (dVar 1) dNil)) [1]))))
theorem der_own (T : Txt K mg a_is_whole a_own a_own_list a_are_wholes a_is_row a_is_room a_is_table a_Mode_init a_is_mode a_is_push a_Thing_init a_Thing_pushes a_Thing_modes a_Thing_is_closed a_Thing_is_plain a__law_cell_at a__law_stream a__law_number a__law_mode a__law_copied a__law_spoil a__law_same a__law_right a_law C_Mode C_Thing) (D_own_list : FD P w K mg base 1 a_own_list 1 [] g_own_list)
    {f : Addr} {cdv : Value} {A : Around} {outer : List Env} {s : Shared} {H : Hp} {E : XK} (hr : Room 1 (A.deeper (envOfC "own" (defScope s_own) s.heap.objs.size f cdv))) :
    RSs (cxOf (L2.CX P w) P w K mg base N_own "own" (defScope s_own) f cdv A outer s H E) (WF E) (defBody s_own) (tb_own K) :=
  (rss_cons (rs_if (rt_not (rt_val (RE.p (re_callB (cd_isi (K := K)) T.b_isinstance (rpa_cons (rp_var 0) (rpa_cons (RE.p (re_ty T.b_list (by decide +kernel))) rpa_nil)))))) (rss_one (rs_ret (re_var 0))) rss_nil) (rss_one (rs_ret (by exact (RN.e (rn_lc sc_own.nd (ri_seq (re_var 0)) (blkOk_by (own := [("one", 1)]) (N := N_own) (sc := (defScope s_own)) (by decide +kernel)) (fun _ _ _ _ _ => (rg_name 1 sc_own.nd)) (fun _ _ _ _ _ => rts_nil) (fun _ _ _ _ _ => (re_call D_own_list (hr.mono (by decide)) T.f_own_list takes0 (ra_cons (re_var 1) ra_nil)))))))))
/-! ### own_list -/
abbrev s_own_list : Stmt := topS 11
abbrev N_own_list : List Str := ["thing"]
theorem sc_own_list : FnScope N_own_list ["thing"] (defScope s_own_list) := ⟨rfl, rfl, rfl, by decide +kernel, rfl, by decide +kernel, by decide +kernel⟩
def tb_own_list (K : PySem.W.Frag) : DS :=
  (dSq (dIf (dTest (dCB (kIsi K) (dCons (dVarP 0) (dCons (dC (.ty "list")) dNil)))) (dRet (dCB kList (dCons (dVarP 0) dNil))) dNext) (dRet (dVar 0)))
theorem der_own_list (T : Txt K mg a_is_whole a_own a_own_list a_are_wholes a_is_row a_is_room a_is_table a_Mode_init a_is_mode a_is_push a_Thing_init a_Thing_pushes a_Thing_modes a_Thing_is_closed a_Thing_is_plain a__law_cell_at a__law_stream a__law_number a__law_mode a__law_copied a__law_spoil a__law_same a__law_right a_law C_Mode C_Thing) 
    {f : Addr} {cdv : Value} {A : Around} {outer : List Env} {s : Shared} {H : Hp} {E : XK} (hr : Room 0 (A.deeper (envOfC "own_list" (defScope s_own_list) s.heap.objs.size f cdv))) :
    RSs (cxOf (L2.CX P w) P w K mg base N_own_list "own_list" (defScope s_own_list) f cdv A outer s H E) (WF E) (defBody s_own_list) (tb_own_list K) :=
  (rss_cons (rs_if (rt_val (RE.p (re_callB (cd_isi (K := K)) T.b_isinstance (rpa_cons (rp_var 0) (rpa_cons (RE.p (re_ty T.b_list (by decide +kernel))) rpa_nil))))) (rss_one (rs_ret (re_callTy cd_list T.b_list (rpa_cons (rp_var 0) rpa_nil)))) rss_nil) (rss_one (rs_ret (re_var 0))))
/-! ### are_wholes -/
abbrev s_are_wholes : Stmt := topS 12
theorem sc_are_wholes : FnScope N_are_wholes ["thing", "many"] (defScope s_are_wholes) := ⟨rfl, rfl, rfl, by decide +kernel, rfl, by decide +kernel, by decide +kernel⟩
theorem der_are_wholes (T : Txt K mg a_is_whole a_own a_own_list a_are_wholes a_is_row a_is_room a_is_table a_Mode_init a_is_mode a_is_push a_Thing_init a_Thing_pushes a_Thing_modes a_Thing_is_closed a_Thing_is_plain a__law_cell_at a__law_stream a__law_number a__law_mode a__law_copied a__law_spoil a__law_same a__law_right a_law C_Mode C_Thing) (D_is_whole : FD P w K mg base 1 a_is_whole 1 [] g_is_whole)
    {f : Addr} {cdv : Value} {A : Around} {outer : List Env} {s : Shared} {H : Hp} {E : XK} (hr : Room 1 (A.deeper (envOfC "are_wholes" (defScope s_are_wholes) s.heap.objs.size f cdv))) :
    RSs (cxOf (L2.CX P w) P w K mg base N_are_wholes "are_wholes" (defScope s_are_wholes) f cdv A outer s H E) (WF E) (defBody s_are_wholes) (tb_are_wholes K) :=
  (rss_one (rs_ret (re_and (RE.p (re_callB (cd_isi (K := K)) T.b_isinstance (rpa_cons (rp_var 0) (rpa_cons (RE.p (re_ty T.b_list (by decide +kernel))) rpa_nil)))) (re_and (RE.p (re_cmp (opd_eq hr.units) (RE.p (re_callB cd_len T.b_len (rpa_cons (rp_var 0) rpa_nil))) (rp_var 1))) (re_one (re_callB (cd_all rfl) T.b_all (rpa_cons (RE.p (by exact (RN.e (rn_lc sc_are_wholes.nd (ri_seq (re_var 0)) (blkOk_by (own := [("one", 2)]) (N := N_are_wholes) (sc := (defScope s_are_wholes)) (by decide +kernel)) (fun _ _ _ _ _ => (rg_name 2 sc_are_wholes.nd)) (fun _ _ _ _ _ => rts_nil) (fun _ _ _ _ _ => (re_call D_is_whole (hr.mono (by decide)) T.f_is_whole takes0 (ra_cons (re_var 2) ra_nil))))))) rpa_nil)))))))
/-! ### is_row -/
abbrev s_is_row : Stmt := topS 13
theorem sc_is_row : FnScope N_is_row ["thing", "many"] (defScope s_is_row) := ⟨rfl, rfl, rfl, by decide +kernel, rfl, by decide +kernel, by decide +kernel⟩
theorem der_is_row (T : Txt K mg a_is_whole a_own a_own_list a_are_wholes a_is_row a_is_room a_is_table a_Mode_init a_is_mode a_is_push a_Thing_init a_Thing_pushes a_Thing_modes a_Thing_is_closed a_Thing_is_plain a__law_cell_at a__law_stream a__law_number a__law_mode a__law_copied a__law_spoil a__law_same a__law_right a_law C_Mode C_Thing) (D_is_whole : FD P w K mg base 1 a_is_whole 1 [] g_is_whole)
    {f : Addr} {cdv : Value} {A : Around} {outer : List Env} {s : Shared} {H : Hp} {E : XK} (hr : Room 1 (A.deeper (envOfC "is_row" (defScope s_is_row) s.heap.objs.size f cdv))) :
    RSs (cxOf (L2.CX P w) P w K mg base N_is_row "is_row" (defScope s_is_row) f cdv A outer s H E) (WF E) (defBody s_is_row) (tb_is_row K) :=
  (rss_one (rs_ret (re_and (RE.p (re_callB (cd_isi (K := K)) T.b_isinstance (rpa_cons (rp_var 0) (rpa_cons (RE.p (re_ty T.b_tuple (by decide +kernel))) rpa_nil)))) (re_and (RE.p (re_cmp (opd_eq hr.units) (RE.p (re_callB cd_len T.b_len (rpa_cons (rp_var 0) rpa_nil))) (RE.p (re_op opd_add (rp_var 1) (RE.p re_int))))) (re_one (re_callB (cd_all rfl) T.b_all (rpa_cons (RE.p (by exact (RN.e (rn_lc sc_is_row.nd (ri_seq (re_var 0)) (blkOk_by (own := [("one", 2)]) (N := N_is_row) (sc := (defScope s_is_row)) (by decide +kernel)) (fun _ _ _ _ _ => (rg_name 2 sc_is_row.nd)) (fun _ _ _ _ _ => rts_nil) (fun _ _ _ _ _ => (re_call D_is_whole (hr.mono (by decide)) T.f_is_whole takes0 (ra_cons (re_var 2) ra_nil))))))) rpa_nil)))))))
/-! ### is_room -/
abbrev s_is_room : Stmt := topS 14
theorem sc_is_room : FnScope N_is_room ["thing", "many"] (defScope s_is_room) := ⟨rfl, rfl, rfl, by decide +kernel, rfl, by decide +kernel, by decide +kernel⟩
theorem der_is_room (T : Txt K mg a_is_whole a_own a_own_list a_are_wholes a_is_row a_is_room a_is_table a_Mode_init a_is_mode a_is_push a_Thing_init a_Thing_pushes a_Thing_modes a_Thing_is_closed a_Thing_is_plain a__law_cell_at a__law_stream a__law_number a__law_mode a__law_copied a__law_spoil a__law_same a__law_right a_law C_Mode C_Thing) (D_is_row : FD P w K mg base 2 a_is_row 2 [] g_is_row)
    {f : Addr} {cdv : Value} {A : Around} {outer : List Env} {s : Shared} {H : Hp} {E : XK} (hr : Room 2 (A.deeper (envOfC "is_room" (defScope s_is_room) s.heap.objs.size f cdv))) :
    RSs (cxOf (L2.CX P w) P w K mg base N_is_room "is_room" (defScope s_is_room) f cdv A outer s H E) (WF E) (defBody s_is_room) (tb_is_room K) :=
  (rss_one (rs_ret (re_and (RE.p (re_callB (cd_isi (K := K)) T.b_isinstance (rpa_cons (rp_var 0) (rpa_cons (RE.p (re_ty T.b_list (by decide +kernel))) rpa_nil)))) (re_one (re_callB (cd_all rfl) T.b_all (rpa_cons (RE.p (by exact (RN.e (rn_lc sc_is_room.nd (ri_seq (re_var 0)) (blkOk_by (own := [("row", 2)]) (N := N_is_room) (sc := (defScope s_is_room)) (by decide +kernel)) (fun _ _ _ _ _ => (rg_name 2 sc_is_room.nd)) (fun _ _ _ _ _ => rts_nil) (fun _ _ _ _ _ => (re_call D_is_row (hr.mono (by decide)) T.f_is_row takes0 (ra_cons (re_var 2) (ra_cons (re_var 1) ra_nil)))))))) rpa_nil))))))
/-! ### is_table -/
abbrev s_is_table : Stmt := topS 15
theorem sc_is_table : FnScope N_is_table ["thing", "many", "wide"] (defScope s_is_table) := ⟨rfl, rfl, rfl, by decide +kernel, rfl, by decide +kernel, by decide +kernel⟩
theorem der_is_table (T : Txt K mg a_is_whole a_own a_own_list a_are_wholes a_is_row a_is_room a_is_table a_Mode_init a_is_mode a_is_push a_Thing_init a_Thing_pushes a_Thing_modes a_Thing_is_closed a_Thing_is_plain a__law_cell_at a__law_stream a__law_number a__law_mode a__law_copied a__law_spoil a__law_same a__law_right a_law C_Mode C_Thing) (D_are_wholes : FD P w K mg base 2 a_are_wholes 2 [] g_are_wholes)
    {f : Addr} {cdv : Value} {A : Around} {outer : List Env} {s : Shared} {H : Hp} {E : XK} (hr : Room 2 (A.deeper (envOfC "is_table" (defScope s_is_table) s.heap.objs.size f cdv))) :
    RSs (cxOf (L2.CX P w) P w K mg base N_is_table "is_table" (defScope s_is_table) f cdv A outer s H E) (WF E) (defBody s_is_table) (tb_is_table K) :=
  (rss_one (rs_ret (re_and (RE.p (re_callB (cd_isi (K := K)) T.b_isinstance (rpa_cons (rp_var 0) (rpa_cons (RE.p (re_ty T.b_list (by decide +kernel))) rpa_nil)))) (re_and (RE.p (re_cmp (opd_eq hr.units) (RE.p (re_callB cd_len T.b_len (rpa_cons (rp_var 0) rpa_nil))) (rp_var 1))) (re_one (re_callB (cd_all rfl) T.b_all (rpa_cons (RE.p (by exact (RN.e (rn_lc sc_is_table.nd (ri_seq (re_var 0)) (blkOk_by (own := [("one", 3)]) (N := N_is_table) (sc := (defScope s_is_table)) (by decide +kernel)) (fun _ _ _ _ _ => (rg_name 3 sc_is_table.nd)) (fun _ _ _ _ _ => rts_nil) (fun _ _ _ _ _ => (re_call D_are_wholes (hr.mono (by decide)) T.f_are_wholes takes0 (ra_cons (re_var 3) (ra_cons (re_var 2) ra_nil)))))))) rpa_nil)))))))
/-! ### Mode_init -/
abbrev s_Mode_init : Stmt := inClass (topS 16) 0
abbrev N_Mode_init : List Str := ["self", "rows", "nexts", "steer", "push", "add", "divisor"]
theorem sc_Mode_init : FnScope N_Mode_init ["self", "rows", "nexts", "steer", "push", "add", "divisor"] (defScope s_Mode_init) := ⟨rfl, rfl, rfl, by decide +kernel, rfl, by decide +kernel, by decide +kernel⟩
def tb_Mode_init (K : PySem.W.Frag) : DS :=
  (dSq (dPutF K 0 "rows" (dCall 1 [] g_own (dCons (dVar 1) dNil))) (dSq (dPutF K 0 "nexts" (dCall 1 [] g_own (dCons (dVar 2) dNil))) (dSq (dPutF K 0 "steer" (dCall 1 [] g_own (dCons (dVar 3) dNil))) (dSq (dPutF K 0 "push" (dCall 1 [] g_own (dCons (dVar 4) dNil))) (dSq (dPutF K 0 "add" (dCall 1 [] g_own (dCons (dVar 5) dNil))) (dPutF K 0 "divisor" (dVar 6)))))))
theorem der_Mode_init (T : Txt K mg a_is_whole a_own a_own_list a_are_wholes a_is_row a_is_room a_is_table a_Mode_init a_is_mode a_is_push a_Thing_init a_Thing_pushes a_Thing_modes a_Thing_is_closed a_Thing_is_plain a__law_cell_at a__law_stream a__law_number a__law_mode a__law_copied a__law_spoil a__law_same a__law_right a_law C_Mode C_Thing) (D_own : FD P w K mg base 2 a_own 1 [] g_own)
    {f : Addr} {cdv : Value} {A : Around} {outer : List Env} {s : Shared} {H : Hp} {E : XK} (hr : Room 2 (A.deeper (envOfC "Mode.__init__" (defScope s_Mode_init) s.heap.objs.size f cdv))) :
    RSs (cxOf (L2.CX P w) P w K mg base N_Mode_init "Mode.__init__" (defScope s_Mode_init) f cdv A outer s H E) (WF E) (defBody s_Mode_init) (tb_Mode_init K) :=
  (rss_cons (rs_fldS (K := K) 0 (re_call D_own (hr.mono (by decide)) T.f_own (takes_of rfl rfl rfl rfl) (ra_cons (re_var 1) ra_nil))) (rss_cons (rs_fldS (K := K) 0 (re_call D_own (hr.mono (by decide)) T.f_own (takes_of rfl rfl rfl rfl) (ra_cons (re_var 2) ra_nil))) (rss_cons (rs_fldS (K := K) 0 (re_call D_own (hr.mono (by decide)) T.f_own (takes_of rfl rfl rfl rfl) (ra_cons (re_var 3) ra_nil))) (rss_cons (rs_fldS (K := K) 0 (re_call D_own (hr.mono (by decide)) T.f_own (takes_of rfl rfl rfl rfl) (ra_cons (re_var 4) ra_nil))) (rss_cons (rs_fldS (K := K) 0 (re_call D_own (hr.mono (by decide)) T.f_own (takes_of rfl rfl rfl rfl) (ra_cons (re_var 5) ra_nil))) (rss_one (rs_fldS (K := K) 0 (re_var 6))))))))
/-! ### is_mode -/
abbrev s_is_mode : Stmt := topS 17
theorem sc_is_mode : FnScope N_is_mode ["thing", "many", "wide"] (defScope s_is_mode) := ⟨rfl, rfl, rfl, by decide +kernel, rfl, by decide +kernel, by decide +kernel⟩
theorem der_is_mode (T : Txt K mg a_is_whole a_own a_own_list a_are_wholes a_is_row a_is_room a_is_table a_Mode_init a_is_mode a_is_push a_Thing_init a_Thing_pushes a_Thing_modes a_Thing_is_closed a_Thing_is_plain a__law_cell_at a__law_stream a__law_number a__law_mode a__law_copied a__law_spoil a__law_same a__law_right a_law C_Mode C_Thing) (D_is_whole : FD P w K mg base 1 a_is_whole 1 [] g_is_whole) (D_are_wholes : FD P w K mg base 2 a_are_wholes 2 [] g_are_wholes) (D_is_room : FD P w K mg base 3 a_is_room 2 [] g_is_room) (D_is_table : FD P w K mg base 3 a_is_table 3 [] g_is_table)
    {f : Addr} {cdv : Value} {A : Around} {outer : List Env} {s : Shared} {H : Hp} {E : XK} (hr : Room 3 (A.deeper (envOfC "is_mode" (defScope s_is_mode) s.heap.objs.size f cdv))) :
    RSs (cxOf (L2.CX P w) P w K mg base N_is_mode "is_mode" (defScope s_is_mode) f cdv A outer s H E) (WF E) (defBody s_is_mode) (tb_is_mode K C_Mode) :=
  (rss_cons (rs_if (RW.toT (rw_or (rt_not (rt_val (RE.p (re_callB (cd_isi (K := K)) T.b_isinstance (rpa_cons (rp_var 0) (rpa_cons (RE.p (re_glob T.c_Mode rfl)) rpa_nil)))))) (rw_or (rt_not (rt_val (RE.p (re_call D_is_room (hr.mono (by decide)) T.f_is_room (takes_of rfl rfl rfl rfl) (ra_cons (re_fld (K := K) (re_var 0)) (ra_cons (re_var 1) ra_nil)))))) (rw_or1 (rt_not (rt_val (RE.p (re_call D_is_table (hr.mono (by decide)) T.f_is_table (takes_of rfl rfl rfl rfl) (ra_cons (re_fld (K := K) (re_var 0)) (ra_cons (re_var 1) (ra_cons (re_var 1) ra_nil))))))))))) (rss_one (rs_ret re_bl)) rss_nil) (rss_cons (rs_if (RW.toT (rw_or (rt_not (rt_val (RE.p (re_call D_are_wholes (hr.mono (by decide)) T.f_are_wholes (takes_of rfl rfl rfl rfl) (ra_cons (re_fld (K := K) (re_var 0)) (ra_cons (re_var 1) ra_nil)))))) (rw_or (rt_not (rt_val (RE.p (re_call D_is_table (hr.mono (by decide)) T.f_is_table (takes_of rfl rfl rfl rfl) (ra_cons (re_fld (K := K) (re_var 0)) (ra_cons (re_var 1) (ra_cons (re_var 2) ra_nil))))))) (rw_or1 (rt_not (rt_val (RE.p (re_call D_are_wholes (hr.mono (by decide)) T.f_are_wholes (takes_of rfl rfl rfl rfl) (ra_cons (re_fld (K := K) (re_var 0)) (ra_cons (re_var 1) ra_nil)))))))))) (rss_one (rs_ret re_bl)) rss_nil) (rss_one (rs_ret (re_and (RE.p (re_call D_is_whole (hr.mono (by decide)) T.f_is_whole (takes_of rfl rfl rfl rfl) (ra_cons (re_fld (K := K) (re_var 0)) ra_nil))) (re_one (re_cmp opd_ge (RE.p (re_fld (K := K) (re_var 0))) (RE.p re_int))))))))
/-! ### is_push -/
abbrev s_is_push : Stmt := topS 18
theorem sc_is_push : FnScope N_is_push ["thing"] (defScope s_is_push) := ⟨rfl, rfl, rfl, by decide +kernel, rfl, by decide +kernel, by decide +kernel⟩
theorem der_is_push (T : Txt K mg a_is_whole a_own a_own_list a_are_wholes a_is_row a_is_room a_is_table a_Mode_init a_is_mode a_is_push a_Thing_init a_Thing_pushes a_Thing_modes a_Thing_is_closed a_Thing_is_plain a__law_cell_at a__law_stream a__law_number a__law_mode a__law_copied a__law_spoil a__law_same a__law_right a_law C_Mode C_Thing) (D_is_whole : FD P w K mg base 1 a_is_whole 1 [] g_is_whole)
    {f : Addr} {cdv : Value} {A : Around} {outer : List Env} {s : Shared} {H : Hp} {E : XK} (hr : Room 1 (A.deeper (envOfC "is_push" (defScope s_is_push) s.heap.objs.size f cdv))) :
    RSs (cxOf (L2.CX P w) P w K mg base N_is_push "is_push" (defScope s_is_push) f cdv A outer s H E) (WF E) (defBody s_is_push) (tb_is_push K) :=
  (rss_cons (rs_if (RW.toT (rw_or (rt_not (rt_val (RE.p (re_callB (cd_isi (K := K)) T.b_isinstance (rpa_cons (rp_var 0) (rpa_cons (RE.p (re_ty T.b_tuple (by decide +kernel))) rpa_nil)))))) (rw_or (rt_cmp (opd_ne hr.units) (RE.p (re_callB cd_len T.b_len (rpa_cons (rp_var 0) rpa_nil))) (RE.p re_int)) (rw_or (rt_not (rt_val (RE.p (re_call D_is_whole (hr.mono (by decide)) T.f_is_whole (takes_of rfl rfl rfl rfl) (ra_cons (re_ix ixd_seq (rp_var 0) (RE.p re_int)) ra_nil))))) (rw_or1 (rt_not (rt_val (RE.p (re_call D_is_whole (hr.mono (by decide)) T.f_is_whole (takes_of rfl rfl rfl rfl) (ra_cons (re_ix ixd_seq (rp_var 0) (RE.p re_int)) ra_nil)))))))))) (rss_one (rs_ret re_bl)) rss_nil) (rss_one (rs_ret (re_cmp opd_le (RE.p (re_ix ixd_seq (rp_var 0) (RE.p re_int))) (RE.p (re_ix ixd_seq (rp_var 0) (RE.p re_int)))))))
/-! ### Thing_init -/
abbrev s_Thing_init : Stmt := inClass (topS 19) 0
abbrev N_Thing_init : List Str := ["self", "many", "pushes", "modes", "push", "mode"]
theorem sc_Thing_init : FnScope N_Thing_init ["self", "many", "pushes", "modes"] (defScope s_Thing_init) := ⟨rfl, rfl, rfl, by decide +kernel, rfl, by decide +kernel, by decide +kernel⟩
def tb_Thing_init (K : PySem.W.Frag) (C_Mode : Addr) : DS :=
  (dSq (dIf (dOr (dNot (dTest (dCall 1 [] g_is_whole (dCons (dVar 1) dNil)))) (dNot (dTest (dChain kLe kLe (dC (.int 1)) (dVarP 1) (dC (.int 3)))))) dNever dNext) (dSq (dIf (dOr (dNot (dTest (dCB (kIsi K) (dCons (dVarP 2) (dCons (dC (.ty "list")) dNil))))) (dNot (dTest (dCB kAll (dCons (dFz (dLcN (dSeq (dVar 2)) (gNm 4) dYes (dCall 1 [] g_is_push (dCons (dVar 4) dNil)) [4])) dNil))))) dNever dNext) (dSq (dIf (dOr (dNot (dTest (dCB (kIsi K) (dCons (dVarP 3) (dCons (dC (.ty "list")) dNil))))) (dTest (dOp kEqZM (dVarP 3) (dLst dNil)))) dNever dNext) (dSq (dIf (dNot (dTest (dCB kAll (dCons (dFz (dLcN (dSeq (dVar 3)) (gNm 5) dYes (dCall 3 [] (g_is_mode C_Mode) (dCons (dVar 5) (dCons (dVar 1) (dCons (dCB kLen (dCons (dVarP 2) dNil)) dNil)))) [5])) dNil)))) dNever dNext) (dSq (dIf (dOr (dTest (dOp kGt (dCB kLen (dCons (dVarP 2) dNil)) (dC (.int 6)))) (dTest (dOp kGt (dCB kLen (dCons (dVarP 3) dNil)) (dC (.int 40))))) dNever dNext) (dSq (dPutF K 0 "many" (dVar 1)) (dSq (dPutF K 0 "bounds" (dCB kList (dCons (dVarP 2) dNil))) (dPutF K 0 "ways" (dCB kList (dCons (dVarP 3) dNil))))))))))
theorem der_Thing_init (T : Txt K mg a_is_whole a_own a_own_list a_are_wholes a_is_row a_is_room a_is_table a_Mode_init a_is_mode a_is_push a_Thing_init a_Thing_pushes a_Thing_modes a_Thing_is_closed a_Thing_is_plain a__law_cell_at a__law_stream a__law_number a__law_mode a__law_copied a__law_spoil a__law_same a__law_right a_law C_Mode C_Thing) (D_is_whole : FD P w K mg base 1 a_is_whole 1 [] g_is_whole) (D_is_mode : FD P w K mg base 4 a_is_mode 3 [] (g_is_mode C_Mode)) (D_is_push : FD P w K mg base 2 a_is_push 1 [] g_is_push)
    {f : Addr} {cdv : Value} {A : Around} {outer : List Env} {s : Shared} {H : Hp} {E : XK} (hr : Room 4 (A.deeper (envOfC "Thing.__init__" (defScope s_Thing_init) s.heap.objs.size f cdv))) :
    RSs (cxOf (L2.CX P w) P w K mg base N_Thing_init "Thing.__init__" (defScope s_Thing_init) f cdv A outer s H E) (WF E) (defBody s_Thing_init) (tb_Thing_init K C_Mode) :=
  (rss_cons (rs_if (RW.toT (rw_or (rt_not (rt_val (RE.p (re_call D_is_whole (hr.mono (by decide)) T.f_is_whole (takes_of rfl rfl rfl rfl) (ra_cons (re_var 1) ra_nil))))) (rw_or1 (rt_not (rt_chain' opd_le opd_le (RE.p re_int) (rp_var 1) (RE.p (re_glob (d := (.int 3)) (Classical.choose_spec T.g_MOST_NUMBERS) ⟨_, rfl⟩))))))) (rss_one rs_never) rss_nil) (rss_cons (rs_if (RW.toT (rw_or (rt_not (rt_val (RE.p (re_callB (cd_isi (K := K)) T.b_isinstance (rpa_cons (rp_var 2) (rpa_cons (RE.p (re_ty T.b_list (by decide +kernel))) rpa_nil)))))) (rw_or1 (rt_not (rt_val (RE.p (re_callB (cd_all rfl) T.b_all (rpa_cons (RE.p (by exact (RN.e (rn_lc sc_Thing_init.nd (ri_seq (re_var 2)) (blkOk_by (own := [("push", 4)]) (N := N_Thing_init) (sc := (defScope s_Thing_init)) (by decide +kernel)) (fun _ _ _ _ _ => (rg_name 4 sc_Thing_init.nd)) (fun _ _ _ _ _ => rts_nil) (fun _ _ _ _ _ => (re_call D_is_push (hr.mono (by decide)) T.f_is_push takes0 (ra_cons (re_var 4) ra_nil))))))) rpa_nil)))))))) (rss_one rs_never) rss_nil) (rss_cons (rs_if (RW.toT (rw_or (rt_not (rt_val (RE.p (re_callB (cd_isi (K := K)) T.b_isinstance (rpa_cons (rp_var 3) (rpa_cons (RE.p (re_ty T.b_list (by decide +kernel))) rpa_nil)))))) (rw_or1 (rt_cmp (opd_eqZM hr.units) (rp_var 3) (RE.p (re_lst ra_nil)))))) (rss_one rs_never) rss_nil) (rss_cons (rs_if (rt_not (rt_val (RE.p (re_callB (cd_all rfl) T.b_all (rpa_cons (RE.p (by exact (RN.e (rn_lc sc_Thing_init.nd (ri_seq (re_var 3)) (blkOk_by (own := [("mode", 5)]) (N := N_Thing_init) (sc := (defScope s_Thing_init)) (by decide +kernel)) (fun _ _ _ _ _ => (rg_name 5 sc_Thing_init.nd)) (fun _ _ _ _ _ => rts_nil) (fun _ _ _ _ _ => (re_call D_is_mode (hr.mono (by decide)) T.f_is_mode takes0 (ra_cons (re_var 5) (ra_cons (re_var 1) (ra_cons (re_callB cd_len T.b_len (rpa_cons (rp_var 2) rpa_nil)) ra_nil))))))))) rpa_nil))))) (rss_one rs_never) rss_nil) (rss_cons (rs_if (RW.toT (rw_or (rt_cmp opd_gt (RE.p (re_callB cd_len T.b_len (rpa_cons (rp_var 2) rpa_nil))) (RE.p (re_glob (d := (.int 6)) (Classical.choose_spec T.g_MOST_PUSHES) ⟨_, rfl⟩))) (rw_or1 (rt_cmp opd_gt (RE.p (re_callB cd_len T.b_len (rpa_cons (rp_var 3) rpa_nil))) (RE.p (re_glob (d := (.int 40)) (Classical.choose_spec T.g_MOST_MODES) ⟨_, rfl⟩)))))) (rss_one rs_never) rss_nil) (rss_cons (rs_fldS (K := K) 0 (re_var 1)) (rss_cons (rs_fldS (K := K) 0 (re_callTy cd_list T.b_list (rpa_cons (rp_var 2) rpa_nil))) (rss_one (rs_fldS (K := K) 0 (re_callTy cd_list T.b_list (rpa_cons (rp_var 3) rpa_nil)))))))))))
/-! ### Thing_pushes -/
abbrev s_Thing_pushes : Stmt := inClass (topS 19) 1
theorem sc_Thing_pushes : FnScope N_Thing_pushes ["self"] (defScope s_Thing_pushes) := ⟨rfl, rfl, rfl, by decide +kernel, rfl, by decide +kernel, by decide +kernel⟩
theorem der_Thing_pushes (T : Txt K mg a_is_whole a_own a_own_list a_are_wholes a_is_row a_is_room a_is_table a_Mode_init a_is_mode a_is_push a_Thing_init a_Thing_pushes a_Thing_modes a_Thing_is_closed a_Thing_is_plain a__law_cell_at a__law_stream a__law_number a__law_mode a__law_copied a__law_spoil a__law_same a__law_right a_law C_Mode C_Thing) 
    {f : Addr} {cdv : Value} {A : Around} {outer : List Env} {s : Shared} {H : Hp} {E : XK} (hr : Room 0 (A.deeper (envOfC "Thing.pushes" (defScope s_Thing_pushes) s.heap.objs.size f cdv))) :
    RSs (cxOf (L2.CX P w) P w K mg base N_Thing_pushes "Thing.pushes" (defScope s_Thing_pushes) f cdv A outer s H E) (WF E) (defBody s_Thing_pushes) (tb_Thing_pushes K) :=
  (rss_one (rs_ret (re_callTy cd_list T.b_list (rpa_cons (RE.p (re_fld (K := K) (re_var 0))) rpa_nil))))
/-! ### Thing_modes -/
abbrev s_Thing_modes : Stmt := inClass (topS 19) 2
theorem sc_Thing_modes : FnScope N_Thing_modes ["self"] (defScope s_Thing_modes) := ⟨rfl, rfl, rfl, by decide +kernel, rfl, by decide +kernel, by decide +kernel⟩
theorem der_Thing_modes (T : Txt K mg a_is_whole a_own a_own_list a_are_wholes a_is_row a_is_room a_is_table a_Mode_init a_is_mode a_is_push a_Thing_init a_Thing_pushes a_Thing_modes a_Thing_is_closed a_Thing_is_plain a__law_cell_at a__law_stream a__law_number a__law_mode a__law_copied a__law_spoil a__law_same a__law_right a_law C_Mode C_Thing) 
    {f : Addr} {cdv : Value} {A : Around} {outer : List Env} {s : Shared} {H : Hp} {E : XK} (hr : Room 0 (A.deeper (envOfC "Thing.modes" (defScope s_Thing_modes) s.heap.objs.size f cdv))) :
    RSs (cxOf (L2.CX P w) P w K mg base N_Thing_modes "Thing.modes" (defScope s_Thing_modes) f cdv A outer s H E) (WF E) (defBody s_Thing_modes) (tb_Thing_modes K) :=
  (rss_one (rs_ret (re_callTy cd_list T.b_list (rpa_cons (RE.p (re_fld (K := K) (re_var 0))) rpa_nil))))
/-! ### Thing_is_closed -/
abbrev s_Thing_is_closed : Stmt := inClass (topS 19) 3
theorem sc_Thing_is_closed : FnScope N_Thing_is_closed ["self"] (defScope s_Thing_is_closed) := ⟨rfl, rfl, rfl, by decide +kernel, rfl, by decide +kernel, by decide +kernel⟩
theorem der_Thing_is_closed (T : Txt K mg a_is_whole a_own a_own_list a_are_wholes a_is_row a_is_room a_is_table a_Mode_init a_is_mode a_is_push a_Thing_init a_Thing_pushes a_Thing_modes a_Thing_is_closed a_Thing_is_plain a__law_cell_at a__law_stream a__law_number a__law_mode a__law_copied a__law_spoil a__law_same a__law_right a_law C_Mode C_Thing) 
    {f : Addr} {cdv : Value} {A : Around} {outer : List Env} {s : Shared} {H : Hp} {E : XK} (hr : Room 0 (A.deeper (envOfC "Thing.is_closed" (defScope s_Thing_is_closed) s.heap.objs.size f cdv))) :
    RSs (cxOf (L2.CX P w) P w K mg base N_Thing_is_closed "Thing.is_closed" (defScope s_Thing_is_closed) f cdv A outer s H E) (WF E) (defBody s_Thing_is_closed) (tb_Thing_is_closed K) :=
  (rss_one (rs_ret (re_callB (cd_all rfl) T.b_all (rpa_cons (RE.p (by exact (RN.e (rn_lc sc_Thing_is_closed.nd (ri_seq (re_fld (K := K) (re_var 0))) (blkOk_by (own := [("mode", 1)]) (N := N_Thing_is_closed) (sc := (defScope s_Thing_is_closed)) (by decide +kernel)) (fun _ _ _ _ _ => (rg_name 1 sc_Thing_is_closed.nd)) (fun _ _ _ _ _ => rts_nil) (fun _ _ _ _ _ => (re_cmp (opd_eq hr.units) (RE.p (re_fld (K := K) (re_var 1))) (RE.p (re_op opd_mul (RE.p (re_lst (ra_cons re_int ra_nil))) (RE.p (re_fld (K := K) (re_var 0))))))))))) rpa_nil))))
/-! ### Thing_is_plain -/
abbrev s_Thing_is_plain : Stmt := inClass (topS 19) 4
theorem sc_Thing_is_plain : FnScope N_Thing_is_plain ["self"] (defScope s_Thing_is_plain) := ⟨rfl, rfl, rfl, by decide +kernel, rfl, by decide +kernel, by decide +kernel⟩
theorem der_Thing_is_plain (T : Txt K mg a_is_whole a_own a_own_list a_are_wholes a_is_row a_is_room a_is_table a_Mode_init a_is_mode a_is_push a_Thing_init a_Thing_pushes a_Thing_modes a_Thing_is_closed a_Thing_is_plain a__law_cell_at a__law_stream a__law_number a__law_mode a__law_copied a__law_spoil a__law_same a__law_right a_law C_Mode C_Thing) 
    {f : Addr} {cdv : Value} {A : Around} {outer : List Env} {s : Shared} {H : Hp} {E : XK} (hr : Room 0 (A.deeper (envOfC "Thing.is_plain" (defScope s_Thing_is_plain) s.heap.objs.size f cdv))) :
    RSs (cxOf (L2.CX P w) P w K mg base N_Thing_is_plain "Thing.is_plain" (defScope s_Thing_is_plain) f cdv A outer s H E) (WF E) (defBody s_Thing_is_plain) (tb_Thing_is_plain K) :=
  (rss_one (rs_ret (re_and (RE.p (re_cmp (opd_eq hr.units) (RE.p (re_callB cd_len T.b_len (rpa_cons (RE.p (re_fld (K := K) (re_var 0))) rpa_nil))) (RE.p re_int))) (re_one (re_cmp (opd_eqZ hr.units) (RE.p (re_fld (K := K) (re_ix ixd_seq (RE.p (re_fld (K := K) (re_var 0))) (RE.p re_int)))) (RE.p (re_lst ra_nil)))))))
/-! ### _law_cell_at -/
abbrev s__law_cell_at : Stmt := topS 21
abbrev N__law_cell_at : List Str := ["_law_script", "_law_k"]
abbrev tb__law_cell_at  : DS := tb_cellL
theorem rd__law_cell_at  (ds : List D) (Q E : EQ) (h1 : ds.length = 2) (h2 : g__law_cell_at ds Q E) : tb__law_cell_at (dE Q E) (startD N__law_cell_at ds) := rd_cellL ds Q E h1 h2
theorem sc__law_cell_at : FnScope N__law_cell_at ["_law_script", "_law_k"] (defScope s__law_cell_at) := ⟨rfl, rfl, rfl, by decide +kernel, rfl, by decide +kernel, by decide +kernel⟩
theorem der__law_cell_at (T : Txt K mg a_is_whole a_own a_own_list a_are_wholes a_is_row a_is_room a_is_table a_Mode_init a_is_mode a_is_push a_Thing_init a_Thing_pushes a_Thing_modes a_Thing_is_closed a_Thing_is_plain a__law_cell_at a__law_stream a__law_number a__law_mode a__law_copied a__law_spoil a__law_same a__law_right a_law C_Mode C_Thing) 
    {f : Addr} {cdv : Value} {A : Around} {outer : List Env} {s : Shared} {H : Hp} {E : XK} (hr : Room 0 (A.deeper (envOfC "_law_cell_at" (defScope s__law_cell_at) s.heap.objs.size f cdv))) :
    RSs (cxOf (L2.CX P w) P w K mg base N__law_cell_at "_law_cell_at" (defScope s__law_cell_at) f cdv A outer s H E) (WF E) (defBody s__law_cell_at) (tb__law_cell_at) :=
  (rss_cons (rs_if (rt_cmp opd_lt (rp_var 1) (RE.p (re_callB cd_len T.b_len (rpa_cons (rp_var 0) rpa_nil)))) (rss_one (rs_ret (re_ix ixd_seq (rp_var 0) (rp_var 1)))) rss_nil) (rss_one (rs_ret re_int)))
/-! ### _law_stream -/
abbrev s__law_stream : Stmt := topS 22
abbrev N__law_stream : List Str := ["_law_cell", "_law_many", "_law_found", "_law_rest", "_law_k", "_law_number_here"]
abbrev tb__law_stream  : DS := tb_stream31
theorem rd__law_stream  (ds : List D) (Q E : EQ) (h1 : ds.length = 2) (h2 : g__law_stream ds Q E) : tb__law_stream (dE Q E) (startD N__law_stream ds) := rd_stream31 ds Q E h1 h2
theorem sc__law_stream : FnScope N__law_stream ["_law_cell", "_law_many"] (defScope s__law_stream) := ⟨rfl, rfl, rfl, by decide +kernel, rfl, by decide +kernel, by decide +kernel⟩
theorem der__law_stream (T : Txt K mg a_is_whole a_own a_own_list a_are_wholes a_is_row a_is_room a_is_table a_Mode_init a_is_mode a_is_push a_Thing_init a_Thing_pushes a_Thing_modes a_Thing_is_closed a_Thing_is_plain a__law_cell_at a__law_stream a__law_number a__law_mode a__law_copied a__law_spoil a__law_same a__law_right a_law C_Mode C_Thing) 
    {f : Addr} {cdv : Value} {A : Around} {outer : List Env} {s : Shared} {H : Hp} {E : XK} (hr : Room 0 (A.deeper (envOfC "_law_stream" (defScope s__law_stream) s.heap.objs.size f cdv))) :
    RSs (cxOf (L2.CX P w) P w K mg base N__law_stream "_law_stream" (defScope s__law_stream) f cdv A outer s H E) (WF E) (defBody s__law_stream) (tb__law_stream) :=
  (rss_cons (rs_own 2 sc__law_stream.nd (rn_lst ra_nil)) (rss_cons (rs_if (rt_cmp opd_ge (rp_var 0) (RE.p (re_op opd_pow (RE.p re_int) (RE.p re_int)))) (rss_cons (rs_set 3 sc__law_stream.nd (re_op opd_sub (rp_var 0) (RE.p (re_op opd_pow (RE.p re_int) (RE.p re_int))))) (rss_cons (rs_for (passes_of rfl) (ri_range1 (rp_var 1) T.b_range) (rg_name 4 sc__law_stream.nd) (rss_cons (rs_app 2 (re_op opd_mod (rp_var 3) (RE.p re_int))) (rss_one (rs_set 3 sc__law_stream.nd (re_op opd_div (rp_var 3) (RE.p re_int)))))) (rss_frz 2 (rss_one (rs_ret (re_var 2)))))) rss_nil) (rss_cons (rs_set 5 sc__law_stream.nd (re_op opd_add (RE.p (re_op opd_mod (rp_var 0) (RE.p re_int))) (RE.p re_int))) (rss_cons (rs_for (passes_of rfl) (ri_range1 (RE.p (re_op opd_add (rp_var 1) (RE.p re_int))) T.b_range) (rg_name 4 sc__law_stream.nd) (rss_cons (rs_set 5 sc__law_stream.nd (re_op opd_mod (RE.p (re_op opd_add (RE.p (re_op opd_add (RE.p (re_op opd_mul (rp_var 5) (rp_var 5))) (RE.p (re_op opd_mul (RE.p re_int) (rp_var 5))))) (rp_var 4))) (RE.p re_int))) (rss_one (rs_app 2 (re_var 5))))) (rss_one (rs_ret (re_slice (rp_var 2) (ro_some (RE.p re_int)) ro_none)))))))
/-! ### _law_number -/
abbrev s__law_number : Stmt := topS 23
abbrev N__law_number : List Str := ["_law_number_here", "_law_way"]
theorem sc__law_number : FnScope N__law_number ["_law_number_here"] (defScope s__law_number) := ⟨rfl, rfl, rfl, by decide +kernel, rfl, by decide +kernel, by decide +kernel⟩
def tb__law_number  : DS :=
  (dSq (dSet 1 (dOp kMod (dVarP 0) (dC (.int 5)))) (dSq (dIf (dTest (dOp kEq (dVarP 1) (dC (.int 0)))) (dRet (dC (.int 0))) dNext) (dSq (dIf (dTest (dOp kEq (dVarP 1) (dC (.int 1)))) (dRet (dOp kSub (dOp kMod (dOp kMul (dOp kDiv (dVarP 0) (dC (.int 5))) (dOp kPow (dC (.int 10)) (dC (.int 31)))) (dOp kPow (dC (.int 10)) (dC (.int 40)))) (dOp kMul (dC (.int 5)) (dOp kPow (dC (.int 10)) (dC (.int 39)))))) dNext) (dRet (dOp kSub (dOp kMod (dOp kDiv (dVarP 0) (dC (.int 5))) (dC (.int 19))) (dC (.int 9)))))))
theorem der__law_number (T : Txt K mg a_is_whole a_own a_own_list a_are_wholes a_is_row a_is_room a_is_table a_Mode_init a_is_mode a_is_push a_Thing_init a_Thing_pushes a_Thing_modes a_Thing_is_closed a_Thing_is_plain a__law_cell_at a__law_stream a__law_number a__law_mode a__law_copied a__law_spoil a__law_same a__law_right a_law C_Mode C_Thing) 
    {f : Addr} {cdv : Value} {A : Around} {outer : List Env} {s : Shared} {H : Hp} {E : XK} (hr : Room 0 (A.deeper (envOfC "_law_number" (defScope s__law_number) s.heap.objs.size f cdv))) :
    RSs (cxOf (L2.CX P w) P w K mg base N__law_number "_law_number" (defScope s__law_number) f cdv A outer s H E) (WF E) (defBody s__law_number) (tb__law_number) :=
  (rss_cons (rs_set 1 sc__law_number.nd (re_op opd_mod (rp_var 0) (RE.p re_int))) (rss_cons (rs_if (rt_cmp (opd_eq hr.units) (rp_var 1) (RE.p re_int)) (rss_one (rs_ret re_int)) rss_nil) (rss_cons (rs_if (rt_cmp (opd_eq hr.units) (rp_var 1) (RE.p re_int)) (rss_one (rs_ret (re_op opd_sub (RE.p (re_op opd_mod (RE.p (re_op opd_mul (RE.p (re_op opd_div (rp_var 0) (RE.p re_int))) (RE.p (re_op opd_pow (RE.p re_int) (RE.p re_int))))) (RE.p (re_op opd_pow (RE.p re_int) (RE.p re_int))))) (RE.p (re_op opd_mul (RE.p re_int) (RE.p (re_op opd_pow (RE.p re_int) (RE.p re_int)))))))) rss_nil) (rss_one (rs_ret (re_op opd_sub (RE.p (re_op opd_mod (RE.p (re_op opd_div (rp_var 0) (RE.p re_int))) (RE.p re_int))) (RE.p re_int)))))))
/-! ### _law_mode -/
abbrev s__law_mode : Stmt := topS 24
abbrev N__law_mode : List Str := ["_law_cell", "_law_many", "_law_wide", "_law_way", "_law_xs", "_law_numbers", "_law_number_here", "_law_rows", "_law_k", "_law_move", "_law_i", "_law_steer", "_law_push", "_law_divisor"]
theorem sc__law_mode : FnScope N__law_mode ["_law_cell", "_law_many", "_law_wide", "_law_way"] (defScope s__law_mode) := ⟨rfl, rfl, rfl, by decide +kernel, rfl, by decide +kernel, by decide +kernel⟩
def tb__law_mode_c7  : DS :=
  (dSq (dSet 12 (dLc (dRng1 (dVarP 1)) (gNm 10) dYes (dSl (dVarP 5) (dPart (dOp kAdd (dC (.int 28)) (dOp kMul (dC (.int 6)) (dVarP 10)))) (dPart (dOp kAdd (dOp kAdd (dC (.int 28)) (dOp kMul (dC (.int 6)) (dVarP 10))) (dVarP 2)))) [10])) (dSq (dSet 13 (dOp kIx (dLst (dCons (dOp kAdd (dC (.int 1)) (dOp kMod (dOp kIx (dVarP 4) (dC (.int 58))) (dC (.int 9)))) (dCons (dOp kAdd (dC (.int 1)) (dOp kMod (dOp kMul (dOp kIx (dVarP 4) (dC (.int 58))) (dOp kPow (dC (.int 10)) (dC (.int 31)))) (dOp kPow (dC (.int 10)) (dC (.int 40))))) dNil))) (dOp kMod (dOp kIx (dVarP 4) (dC (.int 57))) (dC (.int 2))))) (dRet (dLst (dCons (dVar 7) (dCons (dVar 9) (dCons (dVar 11) (dCons (dVar 12) (dCons (dSl (dVarP 5) (dPart (dC (.int 46))) (dPart (dOp kAdd (dC (.int 46)) (dVarP 1)))) (dCons (dVar 13) dNil))))))))))
def tb__law_mode_c4  : DS :=
  (dSq (dSet 9 (dLc (dRng1 (dVarP 1)) (gNm 10) dYes (dSl (dVarP 5) (dPart (dOp kAdd (dC (.int 16)) (dOp kMul (dC (.int 3)) (dVarP 10)))) (dPart (dOp kAdd (dOp kAdd (dC (.int 16)) (dOp kMul (dC (.int 3)) (dVarP 10))) (dVarP 1)))) [10])) (dSq (dSet 11 (dSl (dVarP 5) (dPart (dC (.int 25))) (dPart (dOp kAdd (dC (.int 25)) (dVarP 1))))) (dSq (dIf (dTest (dOp kEq (dOp kMod (dVarP 3) (dC (.int 4))) (dC (.int 1)))) (dSet 11 (dLc (dSeq (dVar 11)) (gNm 6) dYes (dC (.int 0)) [6])) dNext) (tb__law_mode_c7))))
def tb__law_mode  : DS :=
  (dSq (dSet 4 (dCall 2 [] g__law_stream (dCons (dVar 0) (dCons (dC (.int 60)) dNil)))) (dSq (dSet 5 (dFz (dLcN (dSeq (dVar 4)) (gNm 6) dYes (dCall 1 [] g__law_number (dCons (dVar 6) dNil)) [6]))) (dSq (dSet 7 (dLc (dRng1 (dOp kMod (dOp kIx (dVarP 4) (dC (.int 59))) (dC (.int 5)))) (gNm 8) dYes (dCB kTuple (dCons (dSl (dVarP 5) (dPart (dOp kMul (dC (.int 4)) (dVarP 8))) (dPart (dOp kAdd (dOp kAdd (dOp kMul (dC (.int 4)) (dVarP 8)) (dVarP 1)) (dC (.int 1))))) dNil)) [8])) (dSq (dIf (dTest (dOp kEq (dOp kMod (dOp kDiv (dVarP 3) (dC (.int 4))) (dC (.int 4))) (dC (.int 1)))) (dSet 7 (dLst dNil)) dNext) (tb__law_mode_c4)))))
theorem der__law_mode (T : Txt K mg a_is_whole a_own a_own_list a_are_wholes a_is_row a_is_room a_is_table a_Mode_init a_is_mode a_is_push a_Thing_init a_Thing_pushes a_Thing_modes a_Thing_is_closed a_Thing_is_plain a__law_cell_at a__law_stream a__law_number a__law_mode a__law_copied a__law_spoil a__law_same a__law_right a_law C_Mode C_Thing) (D__law_stream : FD P w K mg base 1 a__law_stream 2 [] g__law_stream) (D__law_number : FD P w K mg base 1 a__law_number 1 [] g__law_number)
    {f : Addr} {cdv : Value} {A : Around} {outer : List Env} {s : Shared} {H : Hp} {E : XK} (hr : Room 1 (A.deeper (envOfC "_law_mode" (defScope s__law_mode) s.heap.objs.size f cdv))) :
    RSs (cxOf (L2.CX P w) P w K mg base N__law_mode "_law_mode" (defScope s__law_mode) f cdv A outer s H E) (WF E) (defBody s__law_mode) (tb__law_mode) :=
  (rss_cons (rs_set 4 sc__law_mode.nd (re_call D__law_stream (hr.mono (by decide)) T.f__law_stream (takes_of rfl rfl rfl rfl) (ra_cons (re_var 0) (ra_cons re_int ra_nil)))) (rss_cons (rs_set 5 sc__law_mode.nd (RN.e (rn_lc sc__law_mode.nd (ri_seq (re_var 4)) (blkOk_by (own := [("_law_number_here", 6)]) (N := N__law_mode) (sc := (defScope s__law_mode)) (by decide +kernel)) (fun _ _ _ _ _ => (rg_name 6 sc__law_mode.nd)) (fun _ _ _ _ _ => rts_nil) (fun _ _ _ _ _ => (re_call D__law_number (hr.mono (by decide)) T.f__law_number takes0 (ra_cons (re_var 6) ra_nil)))))) (rss_cons (rs_setLc 7 sc__law_mode.nd (ri_range1 (RE.p (re_op opd_mod (RE.p (re_ix ixd_seq (rp_var 4) (RE.p re_int))) (RE.p re_int))) T.b_range) (blkOk_by (own := [("_law_k", 8)]) (N := N__law_mode) (sc := (defScope s__law_mode)) (by decide +kernel)) (fun _ _ _ _ _ => (rg_name 8 sc__law_mode.nd)) (fun _ _ _ _ _ => rts_nil) (fun _ _ _ _ _ => (re_callTy cd_tuple T.b_tuple (rpa_cons (RE.p (re_slice (rp_var 5) (ro_some (RE.p (re_op opd_mul (RE.p re_int) (rp_var 8)))) (ro_some (RE.p (re_op opd_add (RE.p (re_op opd_add (RE.p (re_op opd_mul (RE.p re_int) (rp_var 8))) (rp_var 1))) (RE.p re_int)))))) rpa_nil))) (sw_true rfl rfl rfl (by decide +kernel))) (rss_cons (rs_if (rt_cmp (opd_eq hr.units) (RE.p (re_op opd_mod (RE.p (re_op opd_div (rp_var 3) (RE.p re_int))) (RE.p re_int))) (RE.p re_int)) (rss_one (rs_set 7 sc__law_mode.nd (re_lst ra_nil))) rss_nil) (rss_cons (rs_setLc 9 sc__law_mode.nd (ri_range1 (rp_var 1) T.b_range) (blkOk_by (own := [("_law_i", 10)]) (N := N__law_mode) (sc := (defScope s__law_mode)) (by decide +kernel)) (fun _ _ _ _ _ => (rg_name 10 sc__law_mode.nd)) (fun _ _ _ _ _ => rts_nil) (fun _ _ _ _ _ => (re_slice (rp_var 5) (ro_some (RE.p (re_op opd_add (RE.p re_int) (RE.p (re_op opd_mul (RE.p re_int) (rp_var 10)))))) (ro_some (RE.p (re_op opd_add (RE.p (re_op opd_add (RE.p re_int) (RE.p (re_op opd_mul (RE.p re_int) (rp_var 10))))) (rp_var 1)))))) (sw_true rfl rfl rfl (by decide +kernel))) (rss_cons (rs_set 11 sc__law_mode.nd (re_slice (rp_var 5) (ro_some (RE.p re_int)) (ro_some (RE.p (re_op opd_add (RE.p re_int) (rp_var 1)))))) (rss_cons (rs_if (rt_cmp (opd_eq hr.units) (RE.p (re_op opd_mod (rp_var 3) (RE.p re_int))) (RE.p re_int)) (rss_one (rs_setLc 11 sc__law_mode.nd (ri_seq (re_var 11)) (blkOk_by (own := [("_law_number_here", 6)]) (N := N__law_mode) (sc := (defScope s__law_mode)) (by decide +kernel)) (fun _ _ _ _ _ => (rg_name 6 sc__law_mode.nd)) (fun _ _ _ _ _ => rts_nil) (fun _ _ _ _ _ => re_int) (sw_true rfl rfl rfl (by decide +kernel)))) rss_nil) (rss_cons (rs_setLc 12 sc__law_mode.nd (ri_range1 (rp_var 1) T.b_range) (blkOk_by (own := [("_law_i", 10)]) (N := N__law_mode) (sc := (defScope s__law_mode)) (by decide +kernel)) (fun _ _ _ _ _ => (rg_name 10 sc__law_mode.nd)) (fun _ _ _ _ _ => rts_nil) (fun _ _ _ _ _ => (re_slice (rp_var 5) (ro_some (RE.p (re_op opd_add (RE.p re_int) (RE.p (re_op opd_mul (RE.p re_int) (rp_var 10)))))) (ro_some (RE.p (re_op opd_add (RE.p (re_op opd_add (RE.p re_int) (RE.p (re_op opd_mul (RE.p re_int) (rp_var 10))))) (rp_var 2)))))) (sw_true rfl rfl rfl (by decide +kernel))) (rss_cons (rs_set 13 sc__law_mode.nd (re_ix ixd_seq (RE.p (re_lst (ra_cons (re_op opd_add (RE.p re_int) (RE.p (re_op opd_mod (RE.p (re_ix ixd_seq (rp_var 4) (RE.p re_int))) (RE.p re_int)))) (ra_cons (re_op opd_add (RE.p re_int) (RE.p (re_op opd_mod (RE.p (re_op opd_mul (RE.p (re_ix ixd_seq (rp_var 4) (RE.p re_int))) (RE.p (re_op opd_pow (RE.p re_int) (RE.p re_int))))) (RE.p (re_op opd_pow (RE.p re_int) (RE.p re_int)))))) ra_nil)))) (RE.p (re_op opd_mod (RE.p (re_ix ixd_seq (rp_var 4) (RE.p re_int))) (RE.p re_int))))) (rss_one (rs_ret (re_lst (ra_cons (re_var 7) (ra_cons (re_var 9) (ra_cons (re_var 11) (ra_cons (re_var 12) (ra_cons (re_slice (rp_var 5) (ro_some (RE.p re_int)) (ro_some (RE.p (re_op opd_add (RE.p re_int) (rp_var 1))))) (ra_cons (re_var 13) ra_nil))))))))))))))))))
/-! ### _law_copied -/
abbrev s__law_copied : Stmt := topS 25
abbrev N__law_copied : List Str := ["_law_parts", "_law_rows", "_law_move", "_law_steer", "_law_push", "_law_add", "_law_divisor", "_law_one"]
theorem sc__law_copied : FnScope N__law_copied ["_law_parts"] (defScope s__law_copied) := ⟨rfl, rfl, rfl, by decide +kernel, rfl, by decide +kernel, by decide +kernel⟩
def tb__law_copied  : DS :=
  (dSq (dAsg (dVar 0) (gTq 6 (gCs (gNm 1) (gCs (gNm 2) (gCs (gNm 3) (gCs (gNm 4) (gCs (gNm 5) (gCs (gNm 6) gNl)))))))) (dRet (dLst (dCons (dFzJ (dListN (dVarP 1))) (dCons (dFzJ (dLcN (dSeq (dVar 2)) (gNm 7) dYes (dFzJ (dListN (dVarP 7))) [7])) (dCons (dFzJ (dListN (dVarP 3))) (dCons (dFzJ (dLcN (dSeq (dVar 4)) (gNm 7) dYes (dFzJ (dListN (dVarP 7))) [7])) (dCons (dFzJ (dListN (dVarP 5))) (dCons (dVar 6) dNil)))))))))
theorem der__law_copied (T : Txt K mg a_is_whole a_own a_own_list a_are_wholes a_is_row a_is_room a_is_table a_Mode_init a_is_mode a_is_push a_Thing_init a_Thing_pushes a_Thing_modes a_Thing_is_closed a_Thing_is_plain a__law_cell_at a__law_stream a__law_number a__law_mode a__law_copied a__law_spoil a__law_same a__law_right a_law C_Mode C_Thing) 
    {f : Addr} {cdv : Value} {A : Around} {outer : List Env} {s : Shared} {H : Hp} {E : XK} (hr : Room 0 (A.deeper (envOfC "_law_copied" (defScope s__law_copied) s.heap.objs.size f cdv))) :
    RSs (cxOf (L2.CX P w) P w K mg base N__law_copied "_law_copied" (defScope s__law_copied) f cdv A outer s H E) (WF E) (defBody s__law_copied) (tb__law_copied) :=
  (rss_cons (rs_asg (re_var 0) (rg_tuq (rgs_cons (rg_name 1 sc__law_copied.nd) (rgs_cons (rg_name 2 sc__law_copied.nd) (rgs_cons (rg_name 3 sc__law_copied.nd) (rgs_cons (rg_name 4 sc__law_copied.nd) (rgs_cons (rg_name 5 sc__law_copied.nd) (rgs_cons (rg_name 6 sc__law_copied.nd) rgs_nil)))))))) (rss_one (rs_ret (re_lst (ra_cons (by exact (RN.ej (rn_list T.b_list (rp_var 1)))) (ra_cons (by exact (RN.ej (rn_lc sc__law_copied.nd (ri_seq (re_var 2)) (blkOk_by (own := [("_law_one", 7)]) (N := N__law_copied) (sc := (defScope s__law_copied)) (by decide +kernel)) (fun _ _ _ _ _ => (rg_name 7 sc__law_copied.nd)) (fun _ _ _ _ _ => rts_nil) (fun _ _ _ _ _ => (by exact (RN.ej (rn_list T.b_list (rp_var 7)))))))) (ra_cons (by exact (RN.ej (rn_list T.b_list (rp_var 3)))) (ra_cons (by exact (RN.ej (rn_lc sc__law_copied.nd (ri_seq (re_var 4)) (blkOk_by (own := [("_law_one", 7)]) (N := N__law_copied) (sc := (defScope s__law_copied)) (by decide +kernel)) (fun _ _ _ _ _ => (rg_name 7 sc__law_copied.nd)) (fun _ _ _ _ _ => rts_nil) (fun _ _ _ _ _ => (by exact (RN.ej (rn_list T.b_list (rp_var 7)))))))) (ra_cons (by exact (RN.ej (rn_list T.b_list (rp_var 5)))) (ra_cons (re_var 6) ra_nil))))))))))
/-! ### _law_spoil -/
abbrev s__law_spoil : Stmt := topS 26
/-! ### _law_same -/
abbrev s__law_same : Stmt := topS 27
abbrev N__law_same : List Str := ["_law_mode_here", "_law_parts", "_law_found", "_law_one", "_law_row"]
theorem sc__law_same : FnScope N__law_same ["_law_mode_here", "_law_parts"] (defScope s__law_same) := ⟨rfl, rfl, rfl, by decide +kernel, rfl, by decide +kernel, by decide +kernel⟩
def tb__law_same (K : PySem.W.Frag) (C_Mode : Addr) : DS :=
  (dSq (dIf (dNot (dTest (dCB (kIsi K) (dCons (dVarP 0) (dCons (dC (.cls C_Mode)) dNil))))) (dRet (dC (.bl false))) dNext) (dSq (dSet 2 (dLst (dCons (dFld K "rows" (dVar 0)) (dCons (dFld K "nexts" (dVar 0)) (dCons (dFld K "steer" (dVar 0)) (dCons (dFld K "push" (dVar 0)) (dCons (dFld K "add" (dVar 0)) (dCons (dFld K "divisor" (dVar 0)) dNil)))))))) (dSq (dIf (dOr (dNot (dTest (dCB kAll (dCons (dFz (dLcN (dSeq (dSl (dVarP 2) dNoPart (dPart (dC (.int 5))))) (gNm 3) dYes (dCB (kIsi K) (dCons (dVarP 3) (dCons (dC (.ty "list")) dNil))) [3])) dNil)))) (dTest (dCB (kIsi K) (dCons (dOp kIx (dVarP 2) (dC (.int 5))) (dCons (dC (.ty "bool")) dNil))))) (dRet (dC (.bl false))) dNext) (dSq (dIf (dNot (dTest (dCB kAll (dCons (dFz (dLcN (dSeq (dFld K "rows" (dVar 0))) (gNm 4) dYes (dCB (kIsi K) (dCons (dVarP 4) (dCons (dC (.ty "tuple")) dNil))) [4])) dNil)))) (dRet (dC (.bl false))) dNext) (dRet (dOp kEq (dVarP 2) (dVarP 1)))))))
theorem der__law_same (T : Txt K mg a_is_whole a_own a_own_list a_are_wholes a_is_row a_is_room a_is_table a_Mode_init a_is_mode a_is_push a_Thing_init a_Thing_pushes a_Thing_modes a_Thing_is_closed a_Thing_is_plain a__law_cell_at a__law_stream a__law_number a__law_mode a__law_copied a__law_spoil a__law_same a__law_right a_law C_Mode C_Thing) 
    {f : Addr} {cdv : Value} {A : Around} {outer : List Env} {s : Shared} {H : Hp} {E : XK} (hr : Room 0 (A.deeper (envOfC "_law_same" (defScope s__law_same) s.heap.objs.size f cdv))) :
    RSs (cxOf (L2.CX P w) P w K mg base N__law_same "_law_same" (defScope s__law_same) f cdv A outer s H E) (WF E) (defBody s__law_same) (tb__law_same K C_Mode) :=
  (rss_cons (rs_if (rt_not (rt_val (RE.p (re_callB (cd_isi (K := K)) T.b_isinstance (rpa_cons (rp_var 0) (rpa_cons (RE.p (re_glob T.c_Mode rfl)) rpa_nil)))))) (rss_one (rs_ret re_bl)) rss_nil) (rss_cons (rs_set 2 sc__law_same.nd (re_lst (ra_cons (re_fld (K := K) (re_var 0)) (ra_cons (re_fld (K := K) (re_var 0)) (ra_cons (re_fld (K := K) (re_var 0)) (ra_cons (re_fld (K := K) (re_var 0)) (ra_cons (re_fld (K := K) (re_var 0)) (ra_cons (re_fld (K := K) (re_var 0)) ra_nil)))))))) (rss_cons (rs_if (RW.toT (rw_or (rt_not (rt_val (RE.p (re_callB (cd_all rfl) T.b_all (rpa_cons (RE.p (by exact (RN.e (rn_lc sc__law_same.nd (ri_seq (re_slice (rp_var 2) ro_none (ro_some (RE.p re_int)))) (blkOk_by (own := [("_law_one", 3)]) (N := N__law_same) (sc := (defScope s__law_same)) (by decide +kernel)) (fun _ _ _ _ _ => (rg_name 3 sc__law_same.nd)) (fun _ _ _ _ _ => rts_nil) (fun _ _ _ _ _ => (re_callB (cd_isi (K := K)) T.b_isinstance (rpa_cons (rp_var 3) (rpa_cons (RE.p (re_ty T.b_list (by decide +kernel))) rpa_nil)))))))) rpa_nil))))) (rw_or1 (rt_val (RE.p (re_callB (cd_isi (K := K)) T.b_isinstance (rpa_cons (RE.p (re_ix ixd_seq (rp_var 2) (RE.p re_int))) (rpa_cons (RE.p (re_ty T.b_bool (by decide +kernel))) rpa_nil)))))))) (rss_one (rs_ret re_bl)) rss_nil) (rss_cons (rs_if (rt_not (rt_val (RE.p (re_callB (cd_all rfl) T.b_all (rpa_cons (RE.p (by exact (RN.e (rn_lc sc__law_same.nd (ri_seq (re_fld (K := K) (re_var 0))) (blkOk_by (own := [("_law_row", 4)]) (N := N__law_same) (sc := (defScope s__law_same)) (by decide +kernel)) (fun _ _ _ _ _ => (rg_name 4 sc__law_same.nd)) (fun _ _ _ _ _ => rts_nil) (fun _ _ _ _ _ => (re_callB (cd_isi (K := K)) T.b_isinstance (rpa_cons (rp_var 4) (rpa_cons (RE.p (re_ty T.b_tuple (by decide +kernel))) rpa_nil)))))))) rpa_nil))))) (rss_one (rs_ret re_bl)) rss_nil) (rss_one (rs_ret (re_cmp (opd_eq hr.units) (rp_var 2) (rp_var 1))))))))
/-! ### _law_right -/
abbrev s__law_right : Stmt := topS 28
abbrev N__law_right : List Str := ["_law_thing", "_law_many", "_law_pushes", "_law_some", "_law_told", "_law_mode_here", "_law_parts", "_law_shut"]
theorem sc__law_right : FnScope N__law_right ["_law_thing", "_law_many", "_law_pushes", "_law_some"] (defScope s__law_right) := ⟨rfl, rfl, rfl, by decide +kernel, rfl, by decide +kernel, by decide +kernel⟩
def tb__law_right (K : PySem.W.Frag) (C_Thing C_Mode : Addr) : DS :=
  (dSq (dIf (dOr (dTest (dOp kNe (dFld K "many" (dVar 0)) (dVarP 1))) (dOr (dTest (dCB (kIsi K) (dCons (dFld K "many" (dVar 0)) (dCons (dC (.ty "bool")) dNil)))) (dTest (dOp kNe (dMeth C_Thing "pushes" 1 (g_Thing_pushes C_Thing) (dVar 0) dNil) (dVarP 2))))) (dRet (dC (.bl false))) dNext) (dSq (dSet 4 (dMeth C_Thing "modes" 1 (g_Thing_modes C_Thing) (dVar 0) dNil)) (dSq (dIf (dOr (dNot (dTest (dCB (kIsi K) (dCons (dVarP 4) (dCons (dC (.ty "list")) dNil))))) (dOr (dTest (dOp kNe (dCB kLen (dCons (dVarP 4) dNil)) (dCB kLen (dCons (dVarP 3) dNil)))) (dNot (dTest (dCB (kIsi K) (dCons (dMeth C_Thing "pushes" 1 (g_Thing_pushes C_Thing) (dVar 0) dNil) (dCons (dC (.ty "list")) dNil))))))) (dRet (dC (.bl false))) dNext) (dSq (dIf (dNot (dTest (dCB kAll (dCons (dFz (dLcN (dZip (dVar 4) (dVar 3)) (gTp 2 (gCs (gNm 5) (gCs (gNm 6) gNl))) dYes (dCall 2 [] (g__law_same C_Mode) (dCons (dVar 5) (dCons (dVar 6) dNil))) [5, 6])) dNil)))) (dRet (dC (.bl false))) dNext) (dSq (dSet 7 (dOp kEqZ (dFz (dLcN (dSeq (dVar 3)) (gNm 6) (dTest (dOp kNe (dOp kIx (dVarP 6) (dC (.int 2))) (dOp kMul (dLst (dCons (dC (.int 0)) dNil)) (dVarP 1)))) (dVar 6) [6])) (dLst dNil))) (dSq (dIf (dOr (dNot (dTest (dCB (kIsi K) (dCons (dMeth C_Thing "is_closed" 1 (g_Thing_is_closed C_Mode C_Thing) (dVar 0) dNil) (dCons (dC (.ty "bool")) dNil))))) (dNot (dTest (dCB (kIsi K) (dCons (dMeth C_Thing "is_plain" 1 (g_Thing_is_plain C_Mode C_Thing) (dVar 0) dNil) (dCons (dC (.ty "bool")) dNil)))))) (dRet (dC (.bl false))) dNext) (dRet (dAndV (dOp kEq (dMeth C_Thing "is_closed" 1 (g_Thing_is_closed C_Mode C_Thing) (dVar 0) dNil) (dVarP 7)) (dOp kEq (dMeth C_Thing "is_plain" 1 (g_Thing_is_plain C_Mode C_Thing) (dVar 0) dNil) (dAndV (dOp kEq (dCB kLen (dCons (dVarP 3) dNil)) (dC (.int 1))) (dOp kEqZ (dOp kIx (dOp kIx (dVarP 3) (dC (.int 0))) (dC (.int 0))) (dLst dNil))))))))))))
theorem der__law_right (T : Txt K mg a_is_whole a_own a_own_list a_are_wholes a_is_row a_is_room a_is_table a_Mode_init a_is_mode a_is_push a_Thing_init a_Thing_pushes a_Thing_modes a_Thing_is_closed a_Thing_is_plain a__law_cell_at a__law_stream a__law_number a__law_mode a__law_copied a__law_spoil a__law_same a__law_right a_law C_Mode C_Thing) (D__law_same : FD P w K mg base 1 a__law_same 2 [] (g__law_same C_Mode)) (M_Thing_is_closed : FN P w K mg base 1 a_Thing_is_closed 1 (g_Thing_is_closed C_Mode C_Thing)) (M_Thing_is_plain : FN P w K mg base 1 a_Thing_is_plain 1 (g_Thing_is_plain C_Mode C_Thing)) (M_Thing_modes : FN P w K mg base 1 a_Thing_modes 1 (g_Thing_modes C_Thing)) (M_Thing_pushes : FN P w K mg base 1 a_Thing_pushes 1 (g_Thing_pushes C_Thing))
    {f : Addr} {cdv : Value} {A : Around} {outer : List Env} {s : Shared} {H : Hp} {E : XK} (hr : Room 1 (A.deeper (envOfC "_law_right" (defScope s__law_right) s.heap.objs.size f cdv))) :
    RSs (cxOf (L2.CX P w) P w K mg base N__law_right "_law_right" (defScope s__law_right) f cdv A outer s H E) (WF E) (defBody s__law_right) (tb__law_right K C_Thing C_Mode) :=
  (rss_cons (rs_if (RW.toT (rw_or (rt_cmp (opd_ne hr.units) (RE.p (re_fld (K := K) (re_var 0))) (rp_var 1)) (rw_or (rt_val (RE.p (re_callB (cd_isi (K := K)) T.b_isinstance (rpa_cons (RE.p (re_fld (K := K) (re_var 0))) (rpa_cons (RE.p (re_ty T.b_bool (by decide +kernel))) rpa_nil))))) (rw_or1 (rt_cmp (opd_ne hr.units) (RE.p (re_meth0 (re_var 0) T.l_Thing T.m_Thing_pushes M_Thing_pushes (hr.mono (by decide)) (takes_of rfl rfl rfl rfl))) (rp_var 2)))))) (rss_one (rs_ret re_bl)) rss_nil) (rss_cons (rs_set 4 sc__law_right.nd (re_meth0 (re_var 0) T.l_Thing T.m_Thing_modes M_Thing_modes (hr.mono (by decide)) (takes_of rfl rfl rfl rfl))) (rss_cons (rs_if (RW.toT (rw_or (rt_not (rt_val (RE.p (re_callB (cd_isi (K := K)) T.b_isinstance (rpa_cons (rp_var 4) (rpa_cons (RE.p (re_ty T.b_list (by decide +kernel))) rpa_nil)))))) (rw_or (rt_cmp (opd_ne hr.units) (RE.p (re_callB cd_len T.b_len (rpa_cons (rp_var 4) rpa_nil))) (RE.p (re_callB cd_len T.b_len (rpa_cons (rp_var 3) rpa_nil)))) (rw_or1 (rt_not (rt_val (RE.p (re_callB (cd_isi (K := K)) T.b_isinstance (rpa_cons (RE.p (re_meth0 (re_var 0) T.l_Thing T.m_Thing_pushes M_Thing_pushes (hr.mono (by decide)) (takes_of rfl rfl rfl rfl))) (rpa_cons (RE.p (re_ty T.b_list (by decide +kernel))) rpa_nil)))))))))) (rss_one (rs_ret re_bl)) rss_nil) (rss_cons (rs_if (rt_not (rt_val (RE.p (re_callB (cd_all rfl) T.b_all (rpa_cons (RE.p (by exact (RN.e (rn_lc sc__law_right.nd (ri_zip (re_var 4) (re_var 3) T.b_zip) (blkOk_by (own := [("_law_mode_here", 5), ("_law_parts", 6)]) (N := N__law_right) (sc := (defScope s__law_right)) (by decide +kernel)) (fun _ _ _ _ _ => (rg_tup (rgs_cons (rg_name 5 sc__law_right.nd) (rgs_cons (rg_name 6 sc__law_right.nd) rgs_nil)))) (fun _ _ _ _ _ => rts_nil) (fun _ _ _ _ _ => (re_call D__law_same (hr.mono (by decide)) T.f__law_same takes0 (ra_cons (re_var 5) (ra_cons (re_var 6) ra_nil)))))))) rpa_nil))))) (rss_one (rs_ret re_bl)) rss_nil) (rss_cons (rs_set 7 sc__law_right.nd (re_cmp (opd_eqZ hr.units) (RE.p (by exact (RN.e (rn_lc sc__law_right.nd (ri_seq (re_var 3)) (blkOk_by (own := [("_law_parts", 6)]) (N := N__law_right) (sc := (defScope s__law_right)) (by decide +kernel)) (fun _ _ _ _ _ => (rg_name 6 sc__law_right.nd)) (fun _ _ _ _ _ => (rts_one (rt_cmp (opd_ne hr.units) (RE.p (re_ix ixd_seq (rp_var 6) (RE.p re_int))) (RE.p (re_op opd_mul (RE.p (re_lst (ra_cons re_int ra_nil))) (rp_var 1)))))) (fun _ _ _ _ _ => (re_var 6)))))) (RE.p (re_lst ra_nil)))) (rss_cons (rs_if (RW.toT (rw_or (rt_not (rt_val (RE.p (re_callB (cd_isi (K := K)) T.b_isinstance (rpa_cons (RE.p (re_meth0 (re_var 0) T.l_Thing T.m_Thing_is_closed M_Thing_is_closed (hr.mono (by decide)) (takes_of rfl rfl rfl rfl))) (rpa_cons (RE.p (re_ty T.b_bool (by decide +kernel))) rpa_nil)))))) (rw_or1 (rt_not (rt_val (RE.p (re_callB (cd_isi (K := K)) T.b_isinstance (rpa_cons (RE.p (re_meth0 (re_var 0) T.l_Thing T.m_Thing_is_plain M_Thing_is_plain (hr.mono (by decide)) (takes_of rfl rfl rfl rfl))) (rpa_cons (RE.p (re_ty T.b_bool (by decide +kernel))) rpa_nil))))))))) (rss_one (rs_ret re_bl)) rss_nil) (rss_one (rs_ret (re_and (RE.p (re_cmp (opd_eq hr.units) (RE.p (re_meth0 (re_var 0) T.l_Thing T.m_Thing_is_closed M_Thing_is_closed (hr.mono (by decide)) (takes_of rfl rfl rfl rfl))) (rp_var 7))) (re_one (re_cmp (opd_eq hr.units) (RE.p (re_meth0 (re_var 0) T.l_Thing T.m_Thing_is_plain M_Thing_is_plain (hr.mono (by decide)) (takes_of rfl rfl rfl rfl))) (RE.p (re_and (RE.p (re_cmp (opd_eq hr.units) (RE.p (re_callB cd_len T.b_len (rpa_cons (rp_var 3) rpa_nil))) (RE.p re_int))) (re_one (re_cmp (opd_eqZ hr.units) (RE.p (re_ix ixd_seq (RE.p (re_ix ixd_seq (rp_var 3) (RE.p re_int))) (RE.p re_int))) (RE.p (re_lst ra_nil)))))))))))))))))
/-! ### law -/
abbrev s_law : Stmt := topS 29
abbrev N_law : List Str := ["_law_script", "_law_cell", "_law_many", "_law_wide", "_law_count", "_law_way", "_law_some", "_law_k", "_law_xs", "_law_pushes", "_law_low", "_law_handed", "_law_parts", "_law_modes", "_law_one", "_law_lists", "_law_thing"]
theorem sc_law : FnScope N_law ["_law_script"] (defScope s_law) := ⟨rfl, rfl, rfl, by decide +kernel, rfl, by decide +kernel, by decide +kernel⟩
def tb_law_c11 (C_Mode C_Thing : Addr) : DS :=
  (dSq (dSet 11 (dLc (dSeq (dVar 6)) (gNm 12) dYes (dCall 1 [] g__law_copied (dCons (dVar 12) dNil)) [12])) (dSq (dSet 13 (dLc (dSeq (dVar 11)) (gNm 14) dYes (dMake 7 C_Mode [] g_Mode_init (dCons (dOp kIx (dVarP 14) (dC (.int 0))) (dCons (dOp kIx (dVarP 14) (dC (.int 1))) (dCons (dOp kIx (dVarP 14) (dC (.int 2))) (dCons (dOp kIx (dVarP 14) (dC (.int 3))) (dCons (dOp kIx (dVarP 14) (dC (.int 4))) (dCons (dOp kIx (dVarP 14) (dC (.int 5))) dNil))))))) [14])) (dFrz 9 (dSq (dOwn3 15 9 13 16 (dMake 4 C_Thing [] (g_Thing_init C_Mode) (dCons (dVar 2) (dCons (dOp kIx (dVarP 15) (dC (.int 0))) (dCons (dOp kIx (dVarP 15) (dC (.int 1))) dNil)))) (dTest (dOp kNe (dVarP 11) (dVarP 6))) (dNot (dTest (dCall 4 [] (g__law_right C_Mode C_Thing) (dCons (dVar 16) (dCons (dVar 2) (dCons (dVar 9) (dCons (dVar 6) dNil))))))) (dRet (dC (.bl false)))) (dSq (dJB (preSp 12 11 15) [12]) (dSq (dJB (preRN (dMethN C_Thing "pushes" (g1_Thing_pushes C_Thing) (dVar 16))) []) (dSq (dJB (preRN (dMethN C_Thing "modes" (g1_Thing_modes C_Thing) (dVar 16))) []) (dSq (dRet (dCall 4 [] (g__law_right C_Mode C_Thing) (dCons (dVar 16) (dCons (dVar 2) (dCons (dVar 9) (dCons (dVar 6) dNil)))))) dNext))))))))
def tb_law_c8 (C_Mode C_Thing : Addr) : DS :=
  (dSq (dSet 8 (dCall 2 [] g__law_stream (dCons (dCall 2 [] g__law_cell_at (dCons (dVar 0) (dCons (dC (.int 11)) dNil))) (dCons (dC (.int 12)) dNil)))) (dSq (dOwn 9 (dLstN dNil)) (dSq (dFor (dRng1 (dVarP 3)) (gNm 7) (dSq (dSet 10 (dCall 1 [] g__law_number (dCons (dOp kIx (dVarP 8) (dOp kMul (dC (.int 2)) (dVarP 7))) dNil))) (dApp 9 (dTup (dCons (dVar 10) (dCons (dOp kAdd (dVarP 10) (dOp kIx (dLst (dCons (dC (.int 0)) (dCons (dOp kMod (dOp kIx (dVarP 8) (dOp kAdd (dOp kMul (dC (.int 2)) (dVarP 7)) (dC (.int 1)))) (dC (.int 10))) (dCons (dOp kMul (dOp kIx (dVarP 8) (dOp kAdd (dOp kMul (dC (.int 2)) (dVarP 7)) (dC (.int 1)))) (dOp kPow (dC (.int 10)) (dC (.int 30)))) dNil)))) (dOp kMod (dOp kIx (dVarP 8) (dOp kAdd (dOp kMul (dC (.int 2)) (dVarP 7)) (dC (.int 1)))) (dC (.int 3))))) dNil)))))) (dFrz 6 (tb_law_c11 C_Mode C_Thing)))))
def tb_law_c5 (C_Mode C_Thing : Addr) : DS :=
  (dSq (dSet 5 (dCall 2 [] g__law_cell_at (dCons (dVar 0) (dCons (dC (.int 1)) dNil)))) (dSq (dOwn 6 (dLstN dNil)) (dSq (dFor (dRng1 (dVarP 4)) (gNm 7) (dApp 6 (dCall 4 [] g__law_mode (dCons (dOp kAdd (dCall 2 [] g__law_cell_at (dCons (dVar 0) (dCons (dOp kAdd (dC (.int 2)) (dOp kMod (dVarP 7) (dC (.int 9)))) dNil))) (dOp kMul (dC (.int 7919)) (dVarP 7))) (dCons (dVar 2) (dCons (dVar 3) (dCons (dVar 5) dNil))))))) (tb_law_c8 C_Mode C_Thing))))
def tb_law (C_Mode C_Thing : Addr) : DS :=
  (dSq (dSet 1 (dCall 2 [] g__law_cell_at (dCons (dVar 0) (dCons (dC (.int 0)) dNil)))) (dSq (dSet 2 (dOp kAdd (dC (.int 1)) (dOp kMod (dVarP 1) (dC (.int 3))))) (dSq (dSet 3 (dOp kMod (dOp kDiv (dVarP 1) (dC (.int 3))) (dC (.int 7)))) (dSq (dSet 4 (dOp kIx (dLst (dCons (dC (.int 1)) (dCons (dOp kAdd (dC (.int 1)) (dOp kMod (dOp kDiv (dVarP 1) (dC (.int 21))) (dC (.int 5)))) (dCons (dC (.int 2)) (dCons (dOp kAdd (dC (.int 1)) (dOp kMod (dOp kDiv (dVarP 1) (dC (.int 21))) (dC (.int 5)))) dNil))))) (dOp kMod (dOp kDiv (dVarP 1) (dC (.int 105))) (dC (.int 4))))) (dSq (dIf (dTest (dOp kEq (dOp kMod (dOp kDiv (dVarP 1) (dC (.int 420))) (dC (.int 8))) (dC (.int 5)))) (dSet 4 (dC (.int 40))) dNext) (tb_law_c5 C_Mode C_Thing))))))
theorem der_law (T : Txt K mg a_is_whole a_own a_own_list a_are_wholes a_is_row a_is_room a_is_table a_Mode_init a_is_mode a_is_push a_Thing_init a_Thing_pushes a_Thing_modes a_Thing_is_closed a_Thing_is_plain a__law_cell_at a__law_stream a__law_number a__law_mode a__law_copied a__law_spoil a__law_same a__law_right a_law C_Mode C_Thing) (D__law_cell_at : FD P w K mg base 1 a__law_cell_at 2 [] g__law_cell_at) (D__law_stream : FD P w K mg base 1 a__law_stream 2 [] g__law_stream) (D__law_number : FD P w K mg base 1 a__law_number 1 [] g__law_number) (D__law_mode : FD P w K mg base 2 a__law_mode 4 [] g__law_mode) (D__law_copied : FD P w K mg base 1 a__law_copied 1 [] g__law_copied) (D__law_spoil : FS P w K mg base 1 a__law_spoil spSp) (D__law_right : FD P w K mg base 2 a__law_right 4 [] (g__law_right C_Mode C_Thing)) (M_Thing_modes : FN P w K mg base 1 a_Thing_modes 1 (g_Thing_modes C_Thing)) (M_Thing_pushes : FN P w K mg base 1 a_Thing_pushes 1 (g_Thing_pushes C_Thing)) (O_Thing_modes : FS P w K mg base 1 a_Thing_modes (spO1 K 1 (g1_Thing_modes C_Thing))) (O_Thing_pushes : FS P w K mg base 1 a_Thing_pushes (spO1 K 1 (g1_Thing_pushes C_Thing))) (I_Mode : FI P w K mg base 3 C_Mode 7 [] g_Mode_init) (I_Thing : FI P w K mg base 5 C_Thing 4 [] (g_Thing_init C_Mode))
    {f : Addr} {cdv : Value} {A : Around} {outer : List Env} {s : Shared} {H : Hp} {E : XK} (hr : Room 6 (A.deeper (envOfC "law" (defScope s_law) s.heap.objs.size f cdv))) :
    RSj (cxOf (L2.CX P w) P w K mg base N_law "law" (defScope s_law) f cdv A outer s H E) (WF E) (defBody s_law) (tb_law C_Mode C_Thing) :=
  (rsj_cons (rs_set 1 sc_law.nd (re_call D__law_cell_at (hr.mono (by decide)) T.f__law_cell_at (takes_of rfl rfl rfl rfl) (ra_cons (re_var 0) (ra_cons re_int ra_nil)))) (rsj_cons (rs_set 2 sc_law.nd (re_op opd_add (RE.p re_int) (RE.p (re_op opd_mod (rp_var 1) (RE.p re_int))))) (rsj_cons (rs_set 3 sc_law.nd (re_op opd_mod (RE.p (re_op opd_div (rp_var 1) (RE.p re_int))) (RE.p re_int))) (rsj_cons (rs_set 4 sc_law.nd (re_ix ixd_seq (RE.p (re_lst (ra_cons re_int (ra_cons (re_op opd_add (RE.p re_int) (RE.p (re_op opd_mod (RE.p (re_op opd_div (rp_var 1) (RE.p re_int))) (RE.p re_int)))) (ra_cons re_int (ra_cons (re_op opd_add (RE.p re_int) (RE.p (re_op opd_mod (RE.p (re_op opd_div (rp_var 1) (RE.p re_int))) (RE.p re_int)))) ra_nil)))))) (RE.p (re_op opd_mod (RE.p (re_op opd_div (rp_var 1) (RE.p re_int))) (RE.p re_int))))) (rsj_cons (rs_if (rt_cmp (opd_eq hr.units) (RE.p (re_op opd_mod (RE.p (re_op opd_div (rp_var 1) (RE.p re_int))) (RE.p re_int))) (RE.p re_int)) (rss_one (rs_set 4 sc_law.nd re_int)) rss_nil) (rsj_cons (rs_set 5 sc_law.nd (re_call D__law_cell_at (hr.mono (by decide)) T.f__law_cell_at (takes_of rfl rfl rfl rfl) (ra_cons (re_var 0) (ra_cons re_int ra_nil)))) (rsj_cons (rs_own 6 sc_law.nd (rn_lst ra_nil)) (rsj_cons (rs_for (passes_of rfl) (ri_range1 (rp_var 4) T.b_range) (rg_name 7 sc_law.nd) (rss_one (rs_app 6 (re_call D__law_mode (hr.mono (by decide)) T.f__law_mode (takes_of rfl rfl rfl rfl) (ra_cons (re_op opd_add (RE.p (re_call D__law_cell_at (hr.mono (by decide)) T.f__law_cell_at (takes_of rfl rfl rfl rfl) (ra_cons (re_var 0) (ra_cons (re_op opd_add (RE.p re_int) (RE.p (re_op opd_mod (rp_var 7) (RE.p re_int)))) ra_nil)))) (RE.p (re_op opd_mul (RE.p re_int) (rp_var 7)))) (ra_cons (re_var 2) (ra_cons (re_var 3) (ra_cons (re_var 5) ra_nil)))))))) (rsj_cons (rs_set 8 sc_law.nd (re_call D__law_stream (hr.mono (by decide)) T.f__law_stream (takes_of rfl rfl rfl rfl) (ra_cons (re_call D__law_cell_at (hr.mono (by decide)) T.f__law_cell_at (takes_of rfl rfl rfl rfl) (ra_cons (re_var 0) (ra_cons re_int ra_nil))) (ra_cons re_int ra_nil)))) (rsj_cons (rs_own 9 sc_law.nd (rn_lst ra_nil)) (rsj_cons (rs_for (passes_of rfl) (ri_range1 (rp_var 3) T.b_range) (rg_name 7 sc_law.nd) (rss_cons (rs_set 10 sc_law.nd (re_call D__law_number (hr.mono (by decide)) T.f__law_number (takes_of rfl rfl rfl rfl) (ra_cons (re_ix ixd_seq (rp_var 8) (RE.p (re_op opd_mul (RE.p re_int) (rp_var 7)))) ra_nil))) (rss_one (rs_app 9 (re_tup (ra_cons (re_var 10) (ra_cons (re_op opd_add (rp_var 10) (RE.p (re_ix ixd_seq (RE.p (re_lst (ra_cons re_int (ra_cons (re_op opd_mod (RE.p (re_ix ixd_seq (rp_var 8) (RE.p (re_op opd_add (RE.p (re_op opd_mul (RE.p re_int) (rp_var 7))) (RE.p re_int))))) (RE.p re_int)) (ra_cons (re_op opd_mul (RE.p (re_ix ixd_seq (rp_var 8) (RE.p (re_op opd_add (RE.p (re_op opd_mul (RE.p re_int) (rp_var 7))) (RE.p re_int))))) (RE.p (re_op opd_pow (RE.p re_int) (RE.p re_int)))) ra_nil))))) (RE.p (re_op opd_mod (RE.p (re_ix ixd_seq (rp_var 8) (RE.p (re_op opd_add (RE.p (re_op opd_mul (RE.p re_int) (rp_var 7))) (RE.p re_int))))) (RE.p re_int)))))) ra_nil))))))) (rsj_frz 6 (rsj_cons (rs_setLc 11 sc_law.nd (ri_seq (re_var 6)) (blkOk_by (own := [("_law_parts", 12)]) (N := N_law) (sc := (defScope s_law)) (by decide +kernel)) (fun _ _ _ _ _ => (rg_name 12 sc_law.nd)) (fun _ _ _ _ _ => rts_nil) (fun _ _ _ _ _ => (re_call D__law_copied (hr.mono (by decide)) T.f__law_copied takes0 (ra_cons (re_var 12) ra_nil))) (sw_true rfl rfl rfl (by decide +kernel))) (rsj_cons (rs_setLc 13 sc_law.nd (ri_seq (re_var 11)) (blkOk_by (own := [("_law_one", 14)]) (N := N_law) (sc := (defScope s_law)) (by decide +kernel)) (fun _ _ _ _ _ => (rg_name 14 sc_law.nd)) (fun _ _ _ _ _ => rts_nil) (fun _ _ _ _ _ => (re_make I_Mode (hr.mono (by decide)) T.c_Mode takes0 (ra_cons (re_ix ixd_seq (rp_var 14) (RE.p re_int)) (ra_cons (re_ix ixd_seq (rp_var 14) (RE.p re_int)) (ra_cons (re_ix ixd_seq (rp_var 14) (RE.p re_int)) (ra_cons (re_ix ixd_seq (rp_var 14) (RE.p re_int)) (ra_cons (re_ix ixd_seq (rp_var 14) (RE.p re_int)) (ra_cons (re_ix ixd_seq (rp_var 14) (RE.p re_int)) ra_nil)))))))) (sw_true rfl rfl rfl (by decide +kernel))) (rsj_frz 9 (rsj_own3 15 9 13 16 T.b_list (re_make I_Thing (hr.mono (by decide)) T.c_Thing (takes_of rfl rfl rfl rfl) (ra_cons (re_var 2) (ra_cons (re_ix ixd_seq (rp_var 15) (RE.p re_int)) (ra_cons (re_ix ixd_seq (rp_var 15) (RE.p re_int)) ra_nil)))) (rt_cmp (opd_ne hr.units) (rp_var 11) (rp_var 6)) (rt_not (rt_val (RE.p (re_call D__law_right (hr.mono (by decide)) T.f__law_right (takes_of rfl rfl rfl rfl) (ra_cons (re_var 16) (ra_cons (re_var 2) (ra_cons (re_var 9) (ra_cons (re_var 6) ra_nil)))))))) (rss_one (rs_ret re_bl)) (rsj_jb3 (jb3_spoil (W := WF E) 12 11 15 D__law_spoil (hr.mono (by decide)) T.f__law_spoil (takes_of rfl rfl rfl rfl) sc_law.nd (passes_of rfl) (pe_ix ix_seq (pe_var rfl (by first | exact Or.inl rfl | exact Or.inr (Or.inl rfl) | exact Or.inr (Or.inr rfl))) pe_int (fun _ _ => rfl)) (pe_ix ix_seq (pe_var rfl (by first | exact Or.inl rfl | exact Or.inr (Or.inl rfl) | exact Or.inr (Or.inr rfl))) pe_int (fun _ _ => rfl)) pv_pair) (rsj_jb (jb_rnApp (W := WF E) (rn_meth0 (re_var 16) T.l_Thing T.m_Thing_pushes O_Thing_pushes (hr.mono (by decide)) (takes_of rfl rfl rfl rfl)) pv_pair) (rsj_jb (jb_rnClear (W := WF E) (rn_meth0 (re_var 16) T.l_Thing T.m_Thing_modes O_Thing_modes (hr.mono (by decide)) (takes_of rfl rfl rfl rfl))) (rsj_cons (rs_ret (re_call D__law_right (hr.mono (by decide)) T.f__law_right (takes_of rfl rfl rfl rfl) (ra_cons (re_var 16) (ra_cons (re_var 2) (ra_cons (re_var 9) (ra_cons (re_var 6) ra_nil)))))) (RSs.j rss_nil))))) sc_law.nd hr.units))))))))))))))))
def tb1_Thing_pushes (K : PySem.W.Frag) : DS :=
  (dRetN1 (dListN (dFld K "bounds" (dVar 0))))
theorem der1_Thing_pushes (T : Txt K mg a_is_whole a_own a_own_list a_are_wholes a_is_row a_is_room a_is_table a_Mode_init a_is_mode a_is_push a_Thing_init a_Thing_pushes a_Thing_modes a_Thing_is_closed a_Thing_is_plain a__law_cell_at a__law_stream a__law_number a__law_mode a__law_copied a__law_spoil a__law_same a__law_right a_law C_Mode C_Thing) {f : Addr} {cdv : Value} {A : Around} {outer : List Env} {s : Shared} {H : Hp} {E : XK} (hr : Room 0 (A.deeper (envOfC "Thing.pushes" (defScope s_Thing_pushes) s.heap.objs.size f cdv))) :
    RSs (cxOf (L2.CX P w) P w K mg base N_Thing_pushes "Thing.pushes" (defScope s_Thing_pushes) f cdv A outer s H E) (WF E) (defBody s_Thing_pushes) (tb1_Thing_pushes K) :=
  (rss_one (rs_retN1 (rn_list T.b_list (RE.p (re_fld (K := K) (re_var 0))))))
def tb1_Thing_modes (K : PySem.W.Frag) : DS :=
  (dRetN1 (dListN (dFld K "ways" (dVar 0))))
theorem der1_Thing_modes (T : Txt K mg a_is_whole a_own a_own_list a_are_wholes a_is_row a_is_room a_is_table a_Mode_init a_is_mode a_is_push a_Thing_init a_Thing_pushes a_Thing_modes a_Thing_is_closed a_Thing_is_plain a__law_cell_at a__law_stream a__law_number a__law_mode a__law_copied a__law_spoil a__law_same a__law_right a_law C_Mode C_Thing) {f : Addr} {cdv : Value} {A : Around} {outer : List Env} {s : Shared} {H : Hp} {E : XK} (hr : Room 0 (A.deeper (envOfC "Thing.modes" (defScope s_Thing_modes) s.heap.objs.size f cdv))) :
    RSs (cxOf (L2.CX P w) P w K mg base N_Thing_modes "Thing.modes" (defScope s_Thing_modes) f cdv A outer s H E) (WF E) (defBody s_Thing_modes) (tb1_Thing_modes K) :=
  (rss_one (rs_retN1 (rn_list T.b_list (RE.p (re_fld (K := K) (re_var 0))))))
end
end K11

namespace K11
open PySem PySem.Spec
open PyProof.Rows L2 Dl
open Lp
theorem rd_own_list {K : PySem.W.Frag} (ds : List D) (Q E : EQ) (_ : ds.length = 1) (h : g_own_list ds Q E) : tb_own_list K (dE Q E) (startD N_own_list ds) := by
  obtain ⟨d, rfl, hd, q⟩ := h
  unfold tb_own_list dE
  rcases hd with ⟨i, rfl⟩ | ⟨es, rfl⟩ | ⟨ys, rfl⟩ <;> (walk_at "go"; exact q)
theorem rd_own {K : PySem.W.Frag} (ds : List D) (Q E : EQ) (_ : ds.length = 1) (h : g_own ds Q E) : tb_own K (dE Q E) (startD N_own ds) := by
  obtain ⟨xs, rfl, hx, q⟩ := h
  unfold tb_own dE
  walk_at "go"
  refine compL_map ownD _ _ (fun e he K1 K0 hK => ?_) (by rw [List.nil_append]; exact q)
  walk_at "go"
  exact ⟨e, rfl, hx e he, hK⟩
theorem rd_Mode_init {K : PySem.W.Frag} {CM CT : Addr} (hK : ThK K CM CT) (x : Addr) (ds : List D) (Q : List (Str × D) → Prop) (E : EQ) (_ : ds.length + 1 = 7) (h : g_Mode_init ds Q E) : tb_Mode_init K (dEI (CM, x) Q E) (startI (CM, x) N_Mode_init ds) := by
  obtain ⟨a, b, c, d, e, f, rfl, ha, hb, hc, hd, he, q⟩ := h
  have k1 := hK.f_Mode_rows
  have k2 := hK.f_Mode_nexts
  have k3 := hK.f_Mode_steer
  have k4 := hK.f_Mode_push
  have k5 := hK.f_Mode_add
  have k6 := hK.f_Mode_divisor
  unfold tb_Mode_init dEI startI
  walk_at "go"
  refine ⟨a, rfl, ha, ?_⟩
  walk_at "go"
  refine ⟨b, rfl, hb, ?_⟩
  walk_at "go"
  refine ⟨Nat.le_of_ble_eq_true rfl, ?_⟩
  walk_at "go"
  refine ⟨c, rfl, hc, ?_⟩
  walk_at "go"
  refine ⟨Nat.le_of_ble_eq_true rfl, ?_⟩
  walk_at "go"
  refine ⟨d, rfl, hd, ?_⟩
  walk_at "go"
  refine ⟨Nat.le_of_ble_eq_true rfl, ?_⟩
  walk_at "go"
  refine ⟨e, rfl, he, ?_⟩
  walk_at "go"
  refine ⟨Nat.le_of_ble_eq_true rfl, ?_⟩
  walk_at "go"
  refine ⟨Nat.le_of_ble_eq_true rfl, ?_⟩
  walk_at "go"
  exact q
theorem rd1_Thing_pushes {K : PySem.W.Frag} {CM CT : Addr} (hK : ThK K CM CT) (ds : List D) (Q : List D → Prop) (E : EQ) (_ : ds.length = 1) (h : g1_Thing_pushes CT ds Q E) : tb1_Thing_pushes K (dE1 Q E) (startD N_Thing_pushes ds) := by
  obtain ⟨m, w, ps, rfl, q⟩ := h
  have k := hK.f_Thing_bounds
  unfold tb1_Thing_pushes dE1 thF
  walk_at "go"
  exact q
theorem rd1_Thing_modes {K : PySem.W.Frag} {CM CT : Addr} (hK : ThK K CM CT) (ds : List D) (Q : List D → Prop) (E : EQ) (_ : ds.length = 1) (h : g1_Thing_modes CT ds Q E) : tb1_Thing_modes K (dE1 Q E) (startD N_Thing_modes ds) := by
  obtain ⟨m, w, ps, rfl, q⟩ := h
  have k := hK.f_Thing_ways
  unfold tb1_Thing_modes dE1 thF
  walk_at "go"
  exact q
theorem rd__law_number (ds : List D) (Q E : EQ) (_ : ds.length = 1) (h : g__law_number ds Q E) : tb__law_number (dE Q E) (startD N__law_number ds) := by
  obtain ⟨x, rfl, x0, x1, q⟩ := h
  unfold tb__law_number dE
  walk_at "go"
  have e5 : x.fdiv 5 = x / 5 := Int.fdiv_eq_ediv_of_nonneg _ (by decide)
  by_cases c0 : x.fmod 5 = 0
  · rw [decide_eq_true c0]
    walk_at "go"
    exact q _ (bnd_of (by decide) (by decide))
  rw [decide_eq_false c0]
  walk_at "go"
  by_cases c : x.fmod 5 = 1
  · rw [decide_eq_true c]
    walk_at "go"
    rw [e5]
    have m1 := Int.fmod_nonneg_of_pos (x / 5 * 10000000000000000000000000000000) (show (0 : Int) < 10000000000000000000000000000000000000000 by decide)
    have m2 := Int.fmod_lt_of_pos (x / 5 * 10000000000000000000000000000000) (show (0 : Int) < 10000000000000000000000000000000000000000 by decide)
    exact q _ (bnd_of (by omega) (by omega))
  · rw [decide_eq_false c]
    walk_at "go"
    have m1 := Int.fmod_nonneg_of_pos (x.fdiv 5) (show (0 : Int) < 19 by decide)
    have m2 := Int.fmod_lt_of_pos (x.fdiv 5) (show (0 : Int) < 19 by decide)
    exact q _ (bnd_of (by omega) (by omega))
theorem rd_Thing_init {K : PySem.W.Frag} {CM CT : Addr} (hK : ThK K CM CT) (x : Addr) (ds : List D) (Q : List (Str × D) → Prop) (E : EQ) (_ : ds.length + 1 = 4) (h : g_Thing_init CM ds Q E) : tb_Thing_init K CM (dEI (CT, x) Q E) (startI (CT, x) N_Thing_init ds) := by
  obtain ⟨n, ps, ms, rfl, ok, q⟩ := h
  have k1 := hK.f_Thing_many
  have k2 := hK.f_Thing_bounds
  have k3 := hK.f_Thing_ways
  have n1 := ok.n1
  have n3 := ok.n3
  have p6 := ok.p6
  have m40 := ok.m40
  have hb := kPs_pD ps
  unfold tb_Thing_init dEI startI
  walk_at "go"
  refine ⟨.int n, _, rfl, rfl, ?_⟩
  walk_at "go"
  rw [decide_eq_true (show (1 : Int) ≤ (n : Int) by omega)]
  walk_at "go"
  rw [decide_eq_true (show (n : Int) ≤ 3 by omega)]
  walk_at "go"
  refine compL_map (fun d => .bl (psB d)) _ _ (fun e he K1 K0 hK => ?_) ?_
  · walk_at "go"
    exact ⟨e, rfl, hb.2 _ rfl e he, hK⟩
  rw [List.nil_append]
  walk_at "rd"
  rw [all_map_bl]
  walk_at "rd"
  rw [all_map_id, show (ps.map pD).all psB = true from psB_pD ps ok.up]
  walk_at "go"
  cases ms with
  | nil => exact absurd rfl ok.ne
  | cons m ms =>
    have p6' : (ps.map pD).length ≤ 6 := by rw [List.length_map]; exact p6
    have ml : (ms.map (mdI CM n ps.length)).length + 1 ≤ 40 := by rw [List.length_map]; exact m40
    walk_at "go"
    refine compL_map (fun _ => .bl true) _ _ (fun e he K1 K0 hK => ?_) ?_
    · walk_at "go"
      have he : e ∈ (m :: ms).map (mdI CM n ps.length) := he
      obtain ⟨m', hm', rfl⟩ := List.mem_map.mp he
      refine ⟨_, n, _, rfl, kM_md CM n _ m', ?_⟩
      rw [List.length_map, mdB_md CM n _ m' (ok.md m' hm').pos]
      exact hK
    rw [List.nil_append]
    walk_at "rd"
    rw [show (D.bl true :: (ms.map (mdI CM n ps.length)).map fun _ => D.bl true) = (m :: ms).map (fun _ => D.bl true) from by rw [List.map_map]; rfl, all_map_bl (fun _ => true)]
    walk_at "rd"
    rw [show (true :: ms.map (fun _ => true)).all id = true from by rw [List.all_cons, all_map_id]; simp]
    walk_at "go"
    rw [decide_eq_false (show ¬ (6 : Int) < ((ps.map pD).length : Int) by omega)]
    walk_at "go"
    rw [decide_eq_false (show ¬ (40 : Int) < (((ms.map (mdI CM n ps.length)).length + 1 : Nat) : Int) by omega)]
    walk_at "go"
    refine ⟨Nat.le_of_ble_eq_true rfl, ?_⟩
    walk_at "go"
    refine ⟨Nat.le_of_ble_eq_true rfl, ?_⟩
    walk_at "go"
    exact q
end K11

namespace K11
open PySem PySem.Spec
open PyProof.Rows L2 Dl
open Lp
theorem rd__law_copied (ds : List D) (Q E : EQ) (_ : ds.length = 1) (h : g__law_copied ds Q E) : tb__law_copied (dE Q E) (startD N__law_copied ds) := by
  obtain ⟨n, p, m, rfl, n3, p6, ok, q⟩ := h
  have few := ok.few
  unfold tb__law_copied dE parD
  walk_at "go"
  have hl : ∀ (w : Nat) (R : Mat) (d : D), d ∈ lstL n w R → ∃ i, i < n ∧ d = .lst (tabD w (R i)) := fun w R d hd => list_copy n w R d hd
  refine compL_map (fun d => match d with | .lst xs => .mu xs | d => d) _ _ (fun e he K1 K0 hK => ?_) ?_
  · obtain ⟨i, hi, rfl⟩ := hl _ _ _ he
    walk_at "go"
    exact hK
  rw [List.nil_append]
  have e1 : ∀ (w : Nat) (R : Mat), (lstL n w R).map (fun d => match d with | .lst xs => .mu xs | d => d) = lstM n w R := fun w R => by
    unfold lstL lstM
    rw [List.map_map]
    rfl
  rw [e1]
  walk_at "go"
  refine compL_map (fun d => match d with | .lst xs => .mu xs | d => d) _ _ (fun e he K1 K0 hK => ?_) ?_
  · obtain ⟨i, hi, rfl⟩ := hl _ _ _ he
    walk_at "go"
    exact hK
  rw [List.nil_append, e1]
  walk_at "go"
  exact q
theorem okk_tabX (k n : Nat) (F : Nat → Int) : (D.lst (tabD n F)).okk (k + 1) = true := by
  unfold D.okk
  exact okk_tab _ _ _
theorem okk_lstX (k n p : Nat) (R : Mat) : (D.lst (lstL n p R)).okk (k + 2) = true := by
  unfold D.okk
  exact okks_all fun d hd => by
    obtain ⟨j, _, rfl⟩ := List.mem_map.mp hd
    exact okk_tabX k p _
theorem okk_tabM (k n : Nat) (F : Nat → Int) : (D.mu (tabD n F)).okk (k + 1) = true := by
  unfold D.okk
  exact okk_tab _ _ _
theorem okk_lstM (k n p : Nat) (R : Mat) : (D.mu (lstM n p R)).okk (k + 2) = true := by
  unfold D.okk
  exact okks_all fun d hd => by
    obtain ⟨j, _, rfl⟩ := List.mem_map.mp hd
    exact okk_tabM k p _
theorem okk_par (k n p : Nat) (m : Md) : (parD n p m).okk (k + 3) = true := by
  unfold parD D.okk
  refine okks_all fun d hd => ?_
  have hr : (D.lst (m.rows.map (rowW (n + 1)))).okk (k + 2) = true := by
    unfold D.okk
    exact okks_all fun d hd => by
      obtain ⟨r, _, rfl⟩ := List.mem_map.mp hd
      unfold rowW D.okk
      exact okk_tab _ _ _
  rcases List.mem_cons.mp hd with rfl | hd
  · exact hr
  rcases List.mem_cons.mp hd with rfl | hd
  · exact okk_lstX k _ _ _
  rcases List.mem_cons.mp hd with rfl | hd
  · exact okk_tabX (k + 1) _ _
  rcases List.mem_cons.mp hd with rfl | hd
  · exact okk_lstX k _ _ _
  rcases List.mem_cons.mp hd with rfl | hd
  · exact okk_tabX (k + 1) _ _
  · rw [List.mem_singleton.mp hd]
    rfl
theorem okk_mup (k n p : Nat) (m : Md) : (mupD n p m).okk (k + 3) = true := by
  unfold mupD D.okk
  refine okks_all fun d hd => ?_
  have hr : (D.mu (m.rows.map (rowW (n + 1)))).okk (k + 2) = true := by
    unfold D.okk
    exact okks_all fun d hd => by
      obtain ⟨r, _, rfl⟩ := List.mem_map.mp hd
      unfold rowW D.okk
      exact okk_tab _ _ _
  rcases List.mem_cons.mp hd with rfl | hd
  · exact hr
  rcases List.mem_cons.mp hd with rfl | hd
  · exact okk_lstM k _ _ _
  rcases List.mem_cons.mp hd with rfl | hd
  · exact okk_tabM (k + 1) _ _
  rcases List.mem_cons.mp hd with rfl | hd
  · exact okk_lstM k _ _ _
  rcases List.mem_cons.mp hd with rfl | hd
  · exact okk_tabM (k + 1) _ _
  · rw [List.mem_singleton.mp hd]
    rfl
theorem okk_pars (n p : Nat) (ms : List Md) : D.okk 64 (.lst (ms.map (parD n p))) = true := by
  unfold D.okk
  exact okks_all fun d hd => by
    obtain ⟨m, _, rfl⟩ := List.mem_map.mp hd
    exact okk_par 60 n p m
theorem okk_mups (n p : Nat) (ms : List Md) : D.okk 64 (.lst (ms.map (mupD n p))) = true := by
  unfold D.okk
  exact okks_all fun d hd => by
    obtain ⟨m, _, rfl⟩ := List.mem_map.mp hd
    exact okk_mup 60 n p m
theorem okk_pDs (ps : List (Int × Int)) : D.okk 64 (.lst (ps.map pD)) = true := by
  unfold D.okk
  exact okks_all fun d hd => by
    obtain ⟨m, _, rfl⟩ := List.mem_map.mp hd
    rfl
/-- handed in as drawn -/
theorem pys_map {α : Type} {f g : α → D} {xs : List α} (h : ∀ x ∈ xs, (f x).py = (g x).py) : D.pys (xs.map f) = D.pys (xs.map g) := by
  induction xs with
  | nil => rfl
  | cons x xs ih =>
    show D.py (f x) :: D.pys (xs.map f) = D.py (g x) :: D.pys (xs.map g)
    rw [h x List.mem_cons_self, ih fun y hy => h y (List.mem_cons_of_mem _ hy)]
theorem py_lstM (n p : Nat) (R : Mat) : (D.mu (lstM n p R)).py = (D.lst (lstL n p R)).py := by
  unfold D.py
  exact congrArg _ (pys_map fun j _ => by unfold D.py; rfl)
theorem py_mup (n p : Nat) (m : Md) : (mupD n p m).py = (parD n p m).py := by
  have e1 : (D.mu (m.rows.map (rowW (n + 1)))).py = (D.lst (m.rows.map (rowW (n + 1)))).py := by unfold D.py; rfl
  have e2 : ∀ F : Nat → Int, (D.mu (tabD n F)).py = (D.lst (tabD n F)).py := fun F => by unfold D.py; rfl
  show PyData.list [(D.mu (m.rows.map (rowW (n + 1)))).py, (D.mu (lstM n n m.nexts)).py, (D.mu (tabD n m.steer)).py, (D.mu (lstM n p m.push)).py, (D.mu (tabD n m.add)).py, .int m.div] = PyData.list [(D.lst (m.rows.map (rowW (n + 1)))).py, (D.lst (lstL n n m.nexts)).py, (D.lst (tabD n m.steer)).py, (D.lst (lstL n p m.push)).py, (D.lst (tabD n m.add)).py, .int m.div]
  rw [e1, e2, e2, py_lstM, py_lstM]
theorem py_mups (n p : Nat) (ms : List Md) : (D.lst (ms.map (mupD n p))).py = (D.lst (ms.map (parD n p))).py := by
  unfold D.py
  exact congrArg _ (pys_map fun m _ => py_mup n p m)
theorem rd__law_same {K : PySem.W.Frag} {CM CT : Addr} (hK : ThK K CM CT) (ds : List D) (Q E : EQ) (_ : ds.length = 2) (h : g__law_same CM ds Q E) : tb__law_same K CM (dE Q E) (startD N__law_same ds) := by
  obtain ⟨n, p, m, rfl, n3, p6, ok, q⟩ := h
  have k1 := hK.f_Mode_rows
  have k2 := hK.f_Mode_nexts
  have k3 := hK.f_Mode_steer
  have k4 := hK.f_Mode_push
  have k5 := hK.f_Mode_add
  have k6 := hK.f_Mode_divisor
  have ki := hK.i_Mode
  unfold tb__law_same dE mdI mdF parD
  walk_at "go"
  rw [hK.k_Mode_Mode]
  walk_at "go"
  refine compL_map (fun _ => .bl true) _ _ (fun e he K1 K0 hK => ?_) ?_
  · have h : ∃ xs, e = .lst xs := by
      rcases List.mem_cons.mp he with rfl | he
      · exact ⟨_, rfl⟩
      rcases List.mem_cons.mp he with rfl | he
      · exact ⟨_, rfl⟩
      rcases List.mem_cons.mp he with rfl | he
      · exact ⟨_, rfl⟩
      rcases List.mem_cons.mp he with rfl | he
      · exact ⟨_, rfl⟩
      rcases List.mem_cons.mp he with rfl | he
      · exact ⟨_, rfl⟩
      · cases he
    obtain ⟨xs, rfl⟩ := h
    walk_at "go"
    exact hK
  rw [List.nil_append]
  walk_at "go"
  refine compL_map (fun _ => .bl true) _ _ (fun e he K1 K0 hK => ?_) ?_
  · obtain ⟨r, _, rfl⟩ := List.mem_map.mp he
    unfold rowW
    walk_at "go"
    exact hK
  rw [List.nil_append]
  walk_at "rd"
  rw [all_map_bl (fun _ => true)]
  walk_at "rd"
  rw [all_map_id, show ((m.rows.map (rowW (n + 1))).all fun _ => true) = true from by simp]
  walk_at "go"
  refine ⟨plain_of (okk_par 61 n p m), plain_of (okk_par 61 n p m), ?_⟩
  have e := eqv_self 64 _ (okk_par 61 n p m)
  unfold parD at e
  rw [e]
  exact q
end K11

namespace K11
open PySem PySem.Spec
open PyProof.Rows L2 Dl
open Lp
theorem pairs_par (CM : Addr) (n p : Nat) : ∀ ms : List Md, pairs (ms.map (mdI CM n p)) (ms.map (parD n p)) = ms.map fun m => .tup [mdI CM n p m, parD n p m]
  | [] => rfl
  | m :: ms => by
    show D.tup [mdI CM n p m, parD n p m] :: pairs (ms.map (mdI CM n p)) (ms.map (parD n p)) = _
    rw [pairs_par CM n p ms]
    rfl
theorem shut_fil (n : Nat) (ms : List Md) : ((ms.filter fun m => !decide (tabI n m.steer = tabI n fun _ => 0)) = [] ∧ closedB n ms = true) ∨ (∃ m ms', (ms.filter fun m => !decide (tabI n m.steer = tabI n fun _ => 0)) = m :: ms' ∧ closedB n ms = false) := by
  cases h : ms.filter fun m => !decide (tabI n m.steer = tabI n fun _ => 0) with
  | nil =>
    refine .inl ⟨rfl, ?_⟩
    unfold closedB
    rw [List.all_eq_true]
    intro m hm
    have := List.filter_eq_nil_iff.mp h m hm
    simpa using this
  | cons m ms' =>
    refine .inr ⟨m, ms', rfl, ?_⟩
    have hm : m ∈ ms.filter fun m => !decide (tabI n m.steer = tabI n fun _ => 0) := by rw [h]; exact List.mem_cons_self
    obtain ⟨h1, h2⟩ := List.mem_filter.mp hm
    cases c : closedB n ms with
    | false => rfl
    | true =>
      unfold closedB at c
      rw [List.all_eq_true] at c
      have := c m h1
      rw [this] at h2
      cases h2
theorem shut_eq (n p : Nat) (ms : List Md) (Q : EQ) (q : Q (.bl (closedB n ms))) : kEqZ (.lst ((ms.filter fun m => !decide (tabI n m.steer = tabI n fun _ => 0)).map (parD n p))) (.lst []) Q := by
  rcases shut_fil n ms with ⟨e, c⟩ | ⟨m, ms', e, c⟩
  · rw [e]
    rw [c] at q
    exact ⟨plain_of rfl, plain_of rfl, q⟩
  · rw [e]
    rw [c] at q
    exact q
theorem rd__law_right {K : PySem.W.Frag} {CM CT : Addr} (hK : ThK K CM CT) (ds : List D) (Q E : EQ) (_ : ds.length = 4) (h : g__law_right CM CT ds Q E) : tb__law_right K CT CM (dE Q E) (startD N__law_right ds) := by
  obtain ⟨n, ps, ms, rfl, ok, q⟩ := h
  have k1 := hK.f_Thing_many
  have ki := hK.i_Thing
  have n1 := ok.n1
  have n3 := ok.n3
  have m40 := ok.m40
  unfold tb__law_right dE
  walk_at "go"
  rw [decide_eq_true (rfl : (n : Int) = (n : Int))]
  walk_at "go"
  refine ⟨_, _, _, rfl, ?_⟩
  walk_at "go"
  refine ⟨plain_of (okk_pDs ps), plain_of (okk_pDs ps), ?_⟩
  rw [eqv_self 64 _ (okk_pDs ps)]
  walk_at "go"
  refine ⟨_, _, _, rfl, ?_⟩
  walk_at "go"
  rw [List.length_map, List.length_map, decide_eq_true (rfl : (ms.length : Int) = (ms.length : Int))]
  walk_at "go"
  refine ⟨_, _, _, rfl, ?_⟩
  walk_at "go"
  rw [pairs_par]
  refine compL_fun (fun m => .tup [mdI CM n ps.length m, parD n ps.length m]) (fun _ => .bl true) ms (fun m hm K1 K0 hK' => ?_) ?_
  · walk_at "go"
    exact ⟨n, ps.length, m, rfl, n3, ok.p6, ok.md m hm, hK'⟩
  walk_at "rd"
  rw [all_map_bl (fun _ => true)]
  walk_at "rd"
  rw [all_map_id, show (ms.all fun _ => true) = true from by simp]
  walk_at "go"
  refine compL_fil (parD n ps.length) (parD n ps.length) (fun m => !decide (tabI n m.steer = tabI n fun _ => 0)) ms (fun m hm K1 K0 h1 h0 => ?_) ?_
  · unfold parD at h1 ⊢
    walk_at "go"
    rw [show (n : Int).toNat = n from rfl, rep_tab]
    refine ⟨few_of (by rw [tab_len]; omega), ?_⟩
    walk_at "go"
    refine ⟨plain_of (okk_tabX 63 _ _), plain_of (okk_tabX 63 _ _), ?_⟩
    rw [eqv_tabs]
    cases c : decide (tabI n m.steer = tabI n fun _ => 0)
    · walk_at "go"
      exact h1 (by rw [c]; rfl)
    · walk_at "go"
      exact h0 (by rw [c]; rfl)
  refine ⟨few_of (by decide), shut_eq n _ ms _ ?_⟩
  walk_at "go"
  refine ⟨n, ps, ms, rfl, n1, by omega, ?_⟩
  walk_at "go"
  refine ⟨n, ps, ms, rfl, ok.ne, ?_⟩
  walk_at "go"
  refine ⟨n, ps, ms, rfl, n1, by omega, ?_⟩
  walk_at "go"
  rw [decide_eq_true (rfl : closedB n ms = closedB n ms)]
  walk_at "go"
  refine ⟨n, ps, ms, rfl, ok.ne, ?_⟩
  match ms, ok.ne with
  | [m], _ =>
    walk_at "go"
    have e : plainB [m] = m.rows.isEmpty := rfl
    cases hr : m.rows with
    | nil =>
      have e : plainB [m] = true := by rw [e, hr]; rfl
      refine ⟨plain_of rfl, plain_of rfl, ?_⟩
      walk_at "go"
      have e2 : plainB [m] = (D.lst []).py.eqv (D.lst []).py := e.trans (eqv_self 64 _ rfl).symm
      have e3 : (D.bl (decide (plainB [m] = (D.lst []).py.eqv (D.lst []).py))) = D.bl true := congrArg D.bl (decide_eq_true e2)
      exact e3 ▸ q
    | cons r rs =>
      have e : plainB [m] = false := by rw [e, hr]; rfl
      walk_at "go"
      rw [decide_eq_true e]
      exact q
  | m :: m2 :: ms, _ =>
    have e : plainB (m :: m2 :: ms) = false := rfl
    walk_at "go"
    rw [decide_eq_true e]
    exact q
end K11

/-! Runs, part 1: fractions as rational numbers; the points of a run. -/
namespace Dl
open PySem PySem.Spec
open PyProof.Rows L2

open Lp

/-! ### fractions as rational numbers -/
abbrev qn (q : Rat) : Int × Int := (q.num, (q.den : Int))
theorem qn_pos (q : Rat) : 0 < (qn q).2 := Int.natCast_pos.mpr q.den_pos
theorem qv_qn (q : Rat) : qv (qn q) = q := by
  unfold qv
  show (q.num : Rat) / ((q.den : Int) : Rat) = q
  rw [← Rat.divInt_eq_div, Rat.num_divInt_den]
theorem frX_qn (q : Rat) : frX (qn q) = qn q := by
  have h : (Int.gcd q.num (q.den : Int) : Int) = 1 := by
    have := q.reduced
    unfold Nat.Coprime at this
    unfold Int.gcd
    show (Nat.gcd q.num.natAbs (q.den : Int).natAbs : Int) = 1
    rw [Int.natAbs_natCast, this]
    rfl
  have e := fr_self (qn_pos q) h
  unfold fr at e
  injection e with e
  injection e with e1 e
  injection e with e2 e
  injection e1 with e1
  injection e2 with e2
  unfold frX
  rw [e1, e2]
theorem frX_can {p : Int × Int} (hp : 0 < p.2) : frX p = qn (qv p) := by
  rw [← frX_qn, frX_eq hp (qn_pos _), qv_qn]
/-- a number over a bottom, its top not great -/
def ov (B : Int) (t : Nat) (q : Rat) : Prop := ∃ z : Int, q = (z : Rat) / (B : Rat) ∧ bnd t z
theorem ov_sm {B : Int} {t : Nat} {q : Rat} (hB : 0 < B) (h : ov B t q) : bnd t q.num ∧ (q.den : Int) ≤ B := by
  obtain ⟨z, e, hz⟩ := h
  have e1 : frX (z, B) = qn q := by rw [frX_can hB]; exact congrArg qn e.symm
  obtain ⟨f1, f2, f3, f4, f5⟩ := frX_ok (p := (z, B)) (show B ≠ 0 by omega)
  rw [e1] at f1 f4 f5
  exact ⟨bnd_le f4 hz, by have f1 : (0 : Int) < q.den := f1; have f5 : (q.den : Int).natAbs ≤ B.natAbs := f5; omega⟩
/-! ### sums of so many times numbers -/
/-- numbers over one bottom -/
structure Ovs (B : Int) (t : Nat) : Prop where
  pos : 0 < B
  sm : bnd 3900 B
  tk : t ≤ 3300
theorem Ovs.top {B : Int} {t u : Nat} (o : Ovs B t) {q : Rat} (h : ov B u q) (hu : u ≤ 60000) : bnd 60000 q.num := bnd_mono (ov_sm o.pos h).1 hu
/-! ### points -/
def ptL (n : Nat) (x : Nat → Rat) : List Rat := (List.range n).map x
theorem ptL_len (n : Nat) (x : Nat → Rat) : (ptL n x).length = n := by unfold ptL; rw [List.length_map, List.length_range]
structure MdS (k : Nat) (m : Md) : Prop where
  nexts : ∀ i j, bnd k (m.nexts i j)
  steer : ∀ i, bnd k (m.steer i)
  push : ∀ i j, bnd k (m.push i j)
  add : ∀ i, bnd k (m.add i)
  div : 1 ≤ m.div
  divb : bnd k m.div
/-! ### can a step be made -/
/-! ### points of rational numbers, as the rooms' defs take them -/
def qps (n : Nat) (x : Nat → Rat) : List (Int × Int) := (ptL n x).map qn
theorem qps_len (n : Nat) (x : Nat → Rat) : (qps n x).length = n := by unfold qps; rw [List.length_map, ptL_len]
theorem qps_pos (n : Nat) (x : Nat → Rat) : ∀ p ∈ qps n x, 0 < p.2 := fun p h => by
  obtain ⟨y, _, rfl⟩ := List.mem_map.mp h
  exact qn_pos y
theorem ptQ_qps {n : Nat} {x : Nat → Rat} {j : Nat} (h : j < n) : ptQ (qps n x) j = x j := by
  unfold ptQ qps ptL
  rw [List.map_map, List.getD_eq_getElem?_getD, List.getElem?_map, List.getElem?_range h]
  exact qv_qn (x j)
theorem hld_q {n : Nat} {x : Nat → Rat} (r : Nat → Int) : hld (tabI n r) (r n) (qps n x) = true ↔ qd (rq r) x n ≤ (r n : Rat) := by
  unfold hld
  have p0 : 0 < (wsF (tabI n r) (qps n x) 0 1).2 := wsF_pos _ _ _ _ (by decide) (qps_pos n x)
  rw [decide_eq_true_iff, le_q p0, along_q (qps_len n x) (Nat.le_refl _) (qps_pos n x), qd_congr (fun _ _ => rfl) (fun j hj => ptQ_qps hj)]
abbrev rwQ (n : Nat) (r : Nat → Int) : List Int × Int := (tabI n r, r n)
theorem lies_q (n : Nat) (x : Nat → Rat) (rs : List (Nat → Int)) : ((rs.map (rwQ n)).all fun r => hld r.1 r.2 (qps n x)) = true ↔ ∀ r ∈ rs, qd (rq r) x n ≤ (r n : Rat) := by
  rw [List.all_eq_true]
  constructor
  · intro h r hr
    exact (hld_q r).mp (h _ (List.mem_map.mpr ⟨r, hr, rfl⟩))
  · intro h r hr
    obtain ⟨w, hw, rfl⟩ := List.mem_map.mp hr
    exact (hld_q w).mpr (h w hw)
/-! ### steps -/
structure Stp where
  at' : Nat
  st : Rat
  pu : List Rat
/-- a thing whose numbers are not great -/
structure ThS (n : Nat) (ps : List (Int × Int)) (ms : List Md) : Prop where
  n1 : 1 ≤ n
  n3 : n ≤ 3
  p6 : ps.length ≤ 6
  pb : ∀ q ∈ ps, bnd 200 q.1 ∧ bnd 200 q.2
  m40 : ms.length ≤ 40
  md : ∀ m ∈ ms, MdS 200 m
  rows : ∀ m ∈ ms, ∀ r ∈ m.rows, ∀ j, bnd 200 (r j)
/-- numbers over one bottom: all that a step needs -/
structure StO (n : Nat) (x : Nat → Rat) (s : Stp) (B : Int) (t : Nat) : Prop where
  pos : 0 < B
  sm : bnd 1200 B
  tk : t ≤ 1200
  x : ∀ j, j < n → ov B t (x j)
  v : ov B t s.st
  w : ∀ y ∈ s.pu, ov B t y
/-! ### runs -/
/-! ### the thing steered -/
def Md.put (n : Nat) (m : Md) (p : Pc) : Md where
  rows := m.rows ++ p.1
  nexts := fun i j => p.2.2.2 * m.nexts i j + m.steer i * p.2.1 j
  steer := fun _ => 0
  push := fun i j => p.2.2.2 * m.push i j
  add := fun i => p.2.2.2 * m.add i + p.2.2.1 * m.steer i
  div := p.2.2.2 * m.div
end Dl

/-! Rules, the mathematics of pieces (from k23). -/
namespace Dl
open PySem PySem.Spec
open PyProof.Rows L2

open Lp
/-! ### the plain law: pieces cover, and tell what the rule tells -/
abbrev sq (n : Nat) (f : Nat → Int) (ps : List (Int × Int)) : Rat := qd (rq f) (ptQ ps) n
theorem ge_q {a : Int} {p : Int × Int} (h : 0 < p.2) : a * p.2 ≤ p.1 ↔ (a : Rat) ≤ qv p := by
  unfold qv
  have h' := pos_q h
  have n' := ne_q (show p.2 ≠ 0 by omega)
  rw [← Rat.intCast_le_intCast, Rat.intCast_mul]
  generalize (p.1 : Rat) = x at *
  generalize (p.2 : Rat) = y at *
  generalize (a : Rat) = z at *
  have e : x = x / y * y := by grind
  constructor
  · intro w
    exact Rat.le_of_mul_le_mul_right (by rw [← e]; exact w) h'
  · intro w
    have := Rat.mul_le_mul_of_nonneg_right w (Rat.le_of_lt h')
    rw [← e] at this
    exact this
theorem lt_q {a : Int} {p : Int × Int} (h : 0 < p.2) : p.1 * 1 < a * p.2 ↔ qv p < (a : Rat) := by
  have := ge_q (a := a) h
  rw [Int.mul_one, ← Rat.not_le, ← this]
  omega
/-! ### the pieces of stops -/
end Dl

/-! Runs, part 2: what their laws draw. -/
namespace Dl
open PySem PySem.Spec
open PyProof.Rows L2

open Lp

theorem getD_bd {B : Nat} {ns : List Int} (h : ∀ a ∈ ns, bnd B a) (j : Nat) : bnd B (ns.getD j 0) := by
  rw [List.getD_eq_getElem?_getD]
  cases e : ns[j]? with
  | none => exact bnd_zero
  | some x => exact h x (List.mem_of_getElem? e)
/-- a part of a list of numbers -/
theorem cut_seg {k a n : Nat} (F : Nat → Int) (h : a + n ≤ k) : cut (tabD k F) (some (a : Int)) (some ((a + n : Nat) : Int)) = tabD n fun j => F (a + j) := by
  unfold cut
  rw [tab_len, HT.sIx_nat, HT.sIx_nat]
  refine List.ext_getElem? fun i => ?_
  by_cases hi : i < n
  · rw [tab_get hi, List.getElem?_take_of_lt (by omega), List.getElem?_drop, tab_get (by omega), show min a k = a by omega]
  · rw [List.getElem?_eq_none (by rw [List.length_take, List.length_drop, tab_len]; omega), List.getElem?_eq_none (by rw [tab_len]; omega)]
/-! ### straight rules -/
/-! ### modes -/
structure MdR (m : Md) : Prop where
  s : MdS 40 m
  d5 : m.div ≤ 5
  rl : m.rows.length ≤ 2
  rb : ∀ r ∈ m.rows, ∀ j, bnd 80 (r j)
theorem pickN (ds : List D) (n x : Int) (hn : n = (ds.length : Int)) (h0 : 0 < n) (P : Int → Prop) (h : ∀ d ∈ ds, ∃ z, d = .int z ∧ P z) : ∃ z, atI ds (x.fmod n) = some (.int z) ∧ P z := by
  obtain ⟨y, hy, e⟩ := pick ds n x hn h0
  obtain ⟨z, rfl, hz⟩ := h y hy
  exact ⟨z, e, hz⟩
/-! ### pushes at their bounds or between -/
/-! ### a mode whose rows hold -/
/-! ### a piece whose rows hold and that tells a number -/
end Dl

namespace K11
open PySem PySem.Spec
open PyProof.Rows L2 Dl
open Lp
theorem mode_c7 {Q E : EQ} {c y : Int} {n p : Nat} {rs : List (Nat → Int)} {X N S : Nat → Int} {M : Mat} {s6 s8 s10 : Sl} (n1 : 1 ≤ n) (n3 : n ≤ 3) (p6 : p ≤ 6) (hX : ∀ j, 0 ≤ X j ∧ X j < 2147483647) (yf : ∀ j, bnd 134 (N j)) (hrs : rs.length ≤ 4) (rb : ∀ r ∈ rs, ∀ j, bnd 134 (r j)) (hM : ∀ i j, bnd 134 (M i j)) (hS : ∀ j, bnd 134 (S j))
    (q : ∀ m : Md, Md40 m → Q (parD n p m)) :
    tb__law_mode_c7 (dE Q E) [.sh (.int c), .sh (.int n), .sh (.int p), .sh (.int y), .sh (.lst (tabD 60 X)), .sh (.lst (tabD 60 N)), s6, .sh (.lst (rs.map (rowW (n + 1)))), s8, .sh (.lst (lstL n n M)), s10, .sh (.lst (tabD n S)), .no, .no] := by
  have seg : ∀ (b s m i : Nat), b + s * i + m ≤ 60 → cut (tabD 60 N) (some ((b : Int) + (s : Int) * (i : Int))) (some ((b : Int) + (s : Int) * (i : Int) + (m : Int))) = tabD m fun j => N (b + s * i + j) := fun b s m i h => by
    rw [show (b : Int) + (s : Int) * (i : Int) + (m : Int) = ((b + s * i + m : Nat) : Int) by rw [Int.natCast_add, Int.natCast_add, Int.natCast_mul], show (b : Int) + (s : Int) * (i : Int) = ((b + s * i : Nat) : Int) by rw [Int.natCast_add, Int.natCast_mul]]
    exact cut_seg N h
  have seg0 : ∀ (b m : Nat), b + m ≤ 60 → cut (tabD 60 N) (some (b : Int)) (some ((b : Int) + (m : Int))) = tabD m fun j => N (b + j) := fun b m h => by
    rw [show (b : Int) + (m : Int) = ((b + m : Nat) : Int) by omega]
    exact cut_seg N h
  unfold tb__law_mode_c7 dE
  walk_at "go"
  rw [Int.toNat_natCast]
  refine compL_rng n (fun i => .lst (tabD p fun j => N (28 + 6 * i + j))) (fun i hi K1 K0 hK => ?_) ?_
  · walk_at "go"
    rw [show cut (tabD 60 N) (some ((28 : Int) + 6 * (i : Int))) (some ((28 : Int) + 6 * (i : Int) + (p : Int))) = _ from seg 28 6 p i (by omega)]
    exact hK
  rw [show (List.range n).map (fun i => D.lst (tabD p fun j => N (28 + 6 * i + j))) = lstL n p fun i j => N (28 + 6 * i + j) from rfl]
  have h58 := hX 58
  walk_at "go"
  obtain ⟨z, ez, z1, zb⟩ := pickN [D.int (1 + (X 58).fmod 9), D.int (1 + (X 58 * 10000000000000000000000000000000).fmod 10000000000000000000000000000000000000000)] 2 (X 57) rfl (by decide) (fun z => 1 ≤ z ∧ bnd 134 z) fun d hd => by
    have a1 := Int.fmod_nonneg_of_pos (X 58) (show (0 : Int) < 9 by decide)
    have a2 := Int.fmod_lt_of_pos (X 58) (show (0 : Int) < 9 by decide)
    have b1 := Int.fmod_nonneg_of_pos (X 58 * 10000000000000000000000000000000) (show (0 : Int) < 10000000000000000000000000000000000000000 by decide)
    have b2 := Int.fmod_lt_of_pos (X 58 * 10000000000000000000000000000000) (show (0 : Int) < 10000000000000000000000000000000000000000 by decide)
    rcases List.mem_cons.mp hd with rfl | hd
    · exact ⟨_, rfl, by omega, bnd_of (by omega) (by omega)⟩
    · rw [List.mem_singleton.mp hd]
      exact ⟨_, rfl, by omega, bnd_of (by omega) (by omega)⟩
  rw [ez]
  walk_at "go"
  rw [show cut (tabD 60 N) (some (46 : Int)) (some ((46 : Int) + (n : Int))) = _ from seg0 46 n (by omega)]
  exact q ⟨rs, M, S, fun i j => N (28 + 6 * i + j), fun j => N (46 + j), z⟩ ⟨hrs, rb, hM, hS, fun i j => yf _, fun j => yf _, zb, z1⟩
theorem mode_c4 {Q E : EQ} {c y : Int} {n p : Nat} {rs : List (Nat → Int)} {X N : Nat → Int} {s6 s8 : Sl} (n1 : 1 ≤ n) (n3 : n ≤ 3) (p6 : p ≤ 6) (hX : ∀ j, 0 ≤ X j ∧ X j < 2147483647) (yf : ∀ j, bnd 134 (N j)) (hrs : rs.length ≤ 4) (rb : ∀ r ∈ rs, ∀ j, bnd 134 (r j))
    (q : ∀ m : Md, Md40 m → Q (parD n p m)) :
    tb__law_mode_c4 (dE Q E) [.sh (.int c), .sh (.int n), .sh (.int p), .sh (.int y), .sh (.lst (tabD 60 X)), .sh (.lst (tabD 60 N)), s6, .sh (.lst (rs.map (rowW (n + 1)))), s8, .no, .no, .no, .no, .no] := by
  have seg : ∀ (b s m i : Nat), b + s * i + m ≤ 60 → cut (tabD 60 N) (some ((b : Int) + (s : Int) * (i : Int))) (some ((b : Int) + (s : Int) * (i : Int) + (m : Int))) = tabD m fun j => N (b + s * i + j) := fun b s m i h => by
    rw [show (b : Int) + (s : Int) * (i : Int) + (m : Int) = ((b + s * i + m : Nat) : Int) by rw [Int.natCast_add, Int.natCast_add, Int.natCast_mul], show (b : Int) + (s : Int) * (i : Int) = ((b + s * i : Nat) : Int) by rw [Int.natCast_add, Int.natCast_mul]]
    exact cut_seg N h
  have seg0 : ∀ (b m : Nat), b + m ≤ 60 → cut (tabD 60 N) (some (b : Int)) (some ((b : Int) + (m : Int))) = tabD m fun j => N (b + j) := fun b m h => by
    rw [show (b : Int) + (m : Int) = ((b + m : Nat) : Int) by omega]
    exact cut_seg N h
  unfold tb__law_mode_c4 dE
  walk_at "go"
  rw [Int.toNat_natCast]
  refine compL_rng n (fun i => .lst (tabD n fun j => N (16 + 3 * i + j))) (fun i hi K1 K0 hK => ?_) ?_
  · walk_at "go"
    rw [show cut (tabD 60 N) (some ((16 : Int) + 3 * (i : Int))) (some ((16 : Int) + 3 * (i : Int) + (n : Int))) = _ from seg 16 3 n i (by omega)]
    exact hK
  rw [show (List.range n).map (fun i => D.lst (tabD n fun j => N (16 + 3 * i + j))) = lstL n n fun i j => N (16 + 3 * i + j) from rfl]
  walk_at "go"
  rw [show cut (tabD 60 N) (some (25 : Int)) (some ((25 : Int) + (n : Int))) = _ from seg0 25 n (by omega)]
  by_cases cy : y.fmod 4 = 1
  · rw [decide_eq_true cy]
    walk_at "go"
    refine compL_map (fun _ => .int 0) _ _ (fun e he K1 K0 hK => ?_) ?_
    · obtain ⟨i, hi, rfl⟩ := List.mem_map.mp he
      walk_at "go"
      exact hK
    rw [List.nil_append, show (tabD n fun j => N (25 + j)).map (fun _ => D.int 0) = tabD n fun _ => 0 from by unfold tabD; rw [List.map_map]; rfl]
    exact mode_c7 n1 n3 p6 hX yf hrs rb (fun i j => yf _) (fun j => bnd_of (by decide) (by decide)) q
  · rw [decide_eq_false cy]
    walk_at "rd"
    exact mode_c7 n1 n3 p6 hX yf hrs rb (fun i j => yf _) (fun j => yf _) q
theorem rd__law_mode (ds : List D) (Q E : EQ) (_ : ds.length = 4) (h : g__law_mode ds Q E) : tb__law_mode (dE Q E) (startD N__law_mode ds) := by
  obtain ⟨c, n, p, y, rfl, n1, n3, p6, q⟩ := h
  unfold tb__law_mode dE
  generalize hc : tb__law_mode_c4 = c4
  walk_at "go"
  refine ⟨c, 60, rfl, by decide, fun X hX => ?_⟩
  walk_at "go"
  refine compL_gen D.int (bnd 134) _ (fun e he K1 K0 hK => ?_) fun ys yl yb => ?_
  · obtain ⟨j, _, rfl⟩ := List.mem_map.mp he
    have := hX j
    walk_at "go"
    exact ⟨_, rfl, this.1, this.2, fun y hy => hK y hy⟩
  rw [tab_list, yl, tab_len]
  have yf : ∀ j, bnd 134 ((fun j => ys.getD j 0) j) := getD_bd yb
  generalize (fun j => ys.getD j 0) = N at *
  have m1 := Int.fmod_nonneg_of_pos (X 59) (show (0 : Int) < 5 by decide)
  have m2 := Int.fmod_lt_of_pos (X 59) (show (0 : Int) < 5 by decide)
  walk_at "go"
  refine compL_rng ((X 59).fmod 5).toNat (fun k => rowW (n + 1) fun j => N (4 * k + j)) (fun k hk K1 K0 hK => ?_) ?_
  · walk_at "go"
    rw [show (4 : Int) * (k : Int) + (n : Int) + 1 = ((4 * k + (n + 1) : Nat) : Int) by omega, show (4 : Int) * (k : Int) = ((4 * k : Nat) : Int) by omega, cut_seg N (show 4 * k + (n + 1) ≤ 60 by omega)]
    walk_at "go"
    exact hK
  have er : (List.range ((X 59).fmod 5).toNat).map (fun k => rowW (n + 1) fun j => N (4 * k + j)) = ((List.range ((X 59).fmod 5).toNat).map fun (k : Nat) (j : Nat) => N (4 * k + j)).map (rowW (n + 1)) := by rw [List.map_map]; rfl
  rw [er]
  have hrs : ((List.range ((X 59).fmod 5).toNat).map fun (k : Nat) (j : Nat) => N (4 * k + j)).length ≤ 4 := by rw [List.length_map, List.length_range]; omega
  have rb : ∀ r ∈ ((List.range ((X 59).fmod 5).toNat).map fun (k : Nat) (j : Nat) => N (4 * k + j)), ∀ j, bnd 134 (r j) := fun r hr j => by
    obtain ⟨k, _, rfl⟩ := List.mem_map.mp hr
    exact yf _
  generalize ((List.range ((X 59).fmod 5).toNat).map fun (k : Nat) (j : Nat) => N (4 * k + j)) = rs at *
  walk_at "go"
  by_cases cy : (y.fdiv 4).fmod 4 = 1
  · rw [decide_eq_true cy]
    walk_at "go"
    rw [← hc]
    exact mode_c4 (rs := []) n1 n3 p6 hX yf (by decide) (fun r h => nomatch h) q
  · rw [decide_eq_false cy]
    walk_at "rd"
    rw [← hc]
    exact mode_c4 n1 n3 p6 hX yf hrs rb q
end K11

/-! The D-layer, more: x[0].append(e), x[-1].clear(), x a list of lists that may be changed. -/
namespace Dl
open PySem PySem.Spec
open PyProof.Rows L2
end Dl

/-! The D-layer, more: trees without a list that may be changed; names behind a change. -/
namespace Dl
open PySem PySem.Spec
open PyProof.Rows L2
theorem int_nm (z : Int) : (D.int z).noMu = true := by unfold D.noMu; rfl
theorem frl_nm (l : List Int) : (D.frl (l.map D.int)).noMu = true := by
  unfold D.noMu
  exact noMus_of fun d hd => by
    obtain ⟨z, _, rfl⟩ := List.mem_map.mp hd
    exact int_nm _
theorem lst_nm {ds : List D} (h : ∀ d ∈ ds, d.noMu = true) : (D.lst ds).noMu = true := by unfold D.noMu; exact noMus_of h
theorem tup_nm {ds : List D} (h : ∀ d ∈ ds, d.noMu = true) : (D.tup ds).noMu = true := by unfold D.noMu; exact noMus_of h
theorem tab_mem {n : Nat} {f : Nat → Int} {d : D} (h : d ∈ tabD n f) : ∃ i, d = .int i := by
  unfold tabD at h
  obtain ⟨i, _, rfl⟩ := List.mem_map.mp h
  exact ⟨_, rfl⟩
theorem tabL_nm (n : Nat) (f : Nat → Int) : (D.lst (tabD n f)).noMu = true := lst_nm fun d hd => by obtain ⟨i, rfl⟩ := tab_mem hd; exact int_nm _
theorem rowW_nm (w : Nat) (r : Nat → Int) : (rowW w r).noMu = true := tup_nm fun d hd => by obtain ⟨i, rfl⟩ := tab_mem hd; exact int_nm _
theorem rowsW_nm (w : Nat) (rs : List (Nat → Int)) : (D.lst (rs.map (rowW w))).noMu = true := lst_nm fun d hd => by
  obtain ⟨r, _, rfl⟩ := List.mem_map.mp hd
  exact rowW_nm _ _
theorem lstT_nm (n w : Nat) (R : Mat) : (D.lst (lstL n w R)).noMu = true := lst_nm fun d hd => by
  unfold lstL at hd
  obtain ⟨i, _, rfl⟩ := List.mem_map.mp hd
  exact tabL_nm _ _
theorem mdI_nm (CM : Addr) (n p : Nat) (m : Md) : (mdI CM n p m).noMu = true := by
  unfold mdI mdF D.noMu D.noMuF D.noMuF D.noMuF D.noMuF D.noMuF D.noMuF D.noMuF
  rw [rowsW_nm, lstT_nm, tabL_nm, lstT_nm, tabL_nm, int_nm]
  rfl
theorem thI_nm (CM CT : Addr) (n p : Nat) (ps : List (Int × Int)) (ms : List Md) : (thI CT n ps (ms.map (mdI CM n p))).noMu = true := by
  unfold thI thF D.noMu D.noMuF D.noMuF D.noMuF D.noMuF
  have h1 : (D.lst (ps.map pD)).noMu = true := lst_nm fun d hd => by
    obtain ⟨r, _, rfl⟩ := List.mem_map.mp hd
    rfl
  have h2 : (D.lst (ms.map (mdI CM n p))).noMu = true := lst_nm fun d hd => by
    obtain ⟨r, _, rfl⟩ := List.mem_map.mp hd
    exact mdI_nm _ _ _ _
  rw [int_nm, h1, h2]
  rfl
theorem nm_sh {d : D} (h : d.noMu = true) : nmSl (.sh d) = .sh d := by
  unfold nmSl
  dsimp only
  rw [if_pos h]
end Dl

namespace K11
open PySem PySem.Spec
open PyProof.Rows L2 Dl
open Lp
theorem nmEnv_keep (js : List Nat) : ∀ (k : Nat) (ρ : Env') (i : Nat) (d : D), ρ[i]? = some (.sh d) → k + i ∉ js → d.noMu = true → (nmEnv js k ρ)[i]? = some (.sh d)
  | _, [], i, d, h, _, _ => by cases h
  | k, s :: ρ, 0, d, h, nj, nm => by
    show some (if k ∈ js then Sl.no else nmSl s) = some (.sh d)
    rw [if_neg (show k ∉ js from nj)]
    cases h
    rw [nm_sh nm]
  | k, s :: ρ, i + 1, d, h, nj, nm => nmEnv_keep js (k + 1) ρ i d h (by rw [show k + 1 + i = k + (i + 1) by omega]; exact nj) nm
theorem nm_par (n p : Nat) (m : Md) : (parD n p m).noMu = true := by
  unfold parD
  refine lst_nm fun d hd => ?_
  rcases List.mem_cons.mp hd with rfl | hd
  · exact rowsW_nm _ _
  rcases List.mem_cons.mp hd with rfl | hd
  · exact lstT_nm _ _ _
  rcases List.mem_cons.mp hd with rfl | hd
  · exact tabL_nm _ _
  rcases List.mem_cons.mp hd with rfl | hd
  · exact lstT_nm _ _ _
  rcases List.mem_cons.mp hd with rfl | hd
  · exact tabL_nm _ _
  · rw [List.mem_singleton.mp hd]
    exact int_nm _
theorem nm_pars (n p : Nat) (ms : List Md) : (D.lst (ms.map (parD n p))).noMu = true := lst_nm fun d hd => by
  obtain ⟨m, _, rfl⟩ := List.mem_map.mp hd
  exact nm_par _ _ _
theorem nm_pDs (ps : List (Int × Int)) : (D.lst (ps.map pD)).noMu = true := lst_nm fun d hd => by
  obtain ⟨m, _, rfl⟩ := List.mem_map.mp hd
  rfl
theorem nm_law (ds : List D) (P E : EQ) (h : gLaw 63 ds P E) : D.noMus ds = true := by
  obtain ⟨a, rfl, _⟩ := h
  exact noMus_of fun d hd => by rw [List.mem_singleton.mp hd]; exact frl_nm _
/-- the names that are read behind the changes -/
structure TlE (CM CT : Addr) (n : Nat) (ps : List (Int × Int)) (ms : List Md) (ρ : Env') : Prop where
  e2 : ρ[2]? = some (.sh (.int n))
  e6 : ρ[6]? = some (.sh (.lst (ms.map (parD n ps.length))))
  e9 : ρ[9]? = some (.sh (.lst (ps.map pD)))
  e16 : ρ[16]? = some (.sh (thI CT n ps (ms.map (mdI CM n ps.length))))
theorem TlE.nm {CM CT : Addr} {n : Nat} {ps : List (Int × Int)} {ms : List Md} {ρ : Env'} (h : TlE CM CT n ps ms ρ) (js : List Nat) (h2 : 2 ∉ js) (h6 : 6 ∉ js) (h9 : 9 ∉ js) (h16 : 16 ∉ js) : TlE CM CT n ps ms (nmEnv js 0 ρ) :=
  ⟨nmEnv_keep js 0 ρ 2 _ h.e2 (by rw [Nat.zero_add]; exact h2) (int_nm _), nmEnv_keep js 0 ρ 6 _ h.e6 (by rw [Nat.zero_add]; exact h6) (nm_pars _ _ _), nmEnv_keep js 0 ρ 9 _ h.e9 (by rw [Nat.zero_add]; exact h9) (nm_pDs _), nmEnv_keep js 0 ρ 16 _ h.e16 (by rw [Nat.zero_add]; exact h16) (thI_nm _ _ _ _ _ _)⟩
theorem law_right {CM CT : Addr} {n : Nat} {ps : List (Int × Int)} {ms : List Md} {ρ : Env'} {Q E : EQ} (h : TlE CM CT n ps ms ρ) (ok : Th40 n ps ms) (q : Q (.bl true)) :
    dCall 4 [] (g__law_right CM CT) (dCons (dVar 16) (dCons (dVar 2) (dCons (dVar 9) (dCons (dVar 6) dNil)))) ρ Q E := by
  unfold dCall dCons dVar
  rw [h.e16, h.e2, h.e9, h.e6]
  exact ⟨rfl, n, ps, ms, rfl, ok, q⟩
theorem law_tail {CM CT : Addr} {n : Nat} {ps : List (Int × Int)} {ms : List Md} {ρ : Env'} {Q E : EQ} (h : TlE CM CT n ps ms ρ) (ok : Th40 n ps ms) (q : Q (.bl true)) :
    (dSq (dJB (preRN (dMethN CT "pushes" (g1_Thing_pushes CT) (dVar 16))) []) (dSq (dJB (preRN (dMethN CT "modes" (g1_Thing_modes CT) (dVar 16))) []) (dSq (dRet (dCall 4 [] (g__law_right CM CT) (dCons (dVar 16) (dCons (dVar 2) (dCons (dVar 9) (dCons (dVar 6) dNil)))))) dNext))) (dE Q E) ρ := by
  have p6 := ok.p6
  have m40 := ok.m40
  have h2 := h.nm [] (by simp) (by simp) (by simp) (by simp)
  refine ⟨?_, ?_, ?_⟩
  · unfold preRN dMethN dVar
    rw [h.e16]
    exact ⟨rfl, rfl, _, _, _, rfl, by show (ps.map pD).length ≤ 500; rw [List.length_map]; omega⟩
  · unfold preRN dMethN dVar
    rw [h2.e16]
    exact ⟨rfl, rfl, _, _, _, rfl, by show (ms.map (mdI CM n ps.length)).length ≤ 500; rw [List.length_map]; omega⟩
  · exact law_right (h2.nm [] (by simp) (by simp) (by simp) (by simp)) ok q
theorem tab_ints (w : Nat) (F : Nat → Int) : tabD w F = (tabI w F).map D.int := by
  unfold tabI tabD
  rw [List.map_map]
  rfl
theorem muI_tab {w : Nat} (F : Nat → Int) (h : w ≤ 6) : muI (.mu (tabD w F)) := ⟨tabI w F, by rw [tab_ints], by unfold tabI; rw [List.length_map, List.length_range]; omega⟩
theorem muL_lst {n w : Nat} (R : Mat) (n1 : 1 ≤ n) (n3 : n ≤ 3) (h : w ≤ 6) : muL (.mu (lstM n w R)) := ⟨_, rfl, fun z => by
  have := congrArg List.length z
  unfold lstM at this
  rw [List.length_map, List.length_range] at this
  exact absurd this (by show ¬ n = 0; omega), by unfold lstM; rw [List.length_map, List.length_range]; omega, fun x hx => by
  obtain ⟨i, _, rfl⟩ := List.mem_map.mp hx
  exact muI_tab _ h⟩
theorem okPa_mup {n p : Nat} {m : Md} (n1 : 1 ≤ n) (n3 : n ≤ 3) (h : p ≤ 6) (ok : Md40 m) : okPa (mupD n p m) := ⟨_, _, _, _, _, _, rfl, ⟨_, rfl, by rw [List.length_map]; have := ok.few; omega, fun x hx => by
  obtain ⟨r, _, rfl⟩ := List.mem_map.mp hx
  exact ⟨_, rfl⟩⟩, muL_lst _ n1 n3 (by omega), muI_tab _ (by omega), muL_lst _ n1 n3 h, muI_tab _ (by omega)⟩
theorem law_c11 {CM CT : Addr} {n : Nat} {ps : List (Int × Int)} {ms : List Md} {Q E : EQ} {s0 s1 s3 s4 s5 s7 s8 s10 : Sl} (ok : Th40 n ps ms) (q : Q (.bl true)) :
    tb_law_c11 CM CT (dE Q E) [s0, s1, .sh (.int n), s3, s4, s5, .sh (.lst (ms.map (parD n ps.length))), s7, s8, .ow (ps.map pD), s10, .no, .no, .no, .no, .no, .no] := by
  unfold tb_law_c11 dE
  walk_at "go"
  refine compL_fun (parD n ps.length) (mupD n ps.length) ms (fun m hm K1 K0 hK => ?_) ?_
  · walk_at "go"
    exact ⟨n, ps.length, m, rfl, ok.n3, ok.p6, ok.md m hm, hK⟩
  walk_at "go"
  refine compL_fun (mupD n ps.length) (mdI CM n ps.length) ms (fun m hm K1 K0 hK => ?_) ?_
  · unfold mupD
    walk_at "go"
    have oI : ∀ (w : Nat) (F : Nat → Int), ∀ x ∈ tabD w F, okOwn x := fun w F x hx => by
      obtain ⟨i, rfl⟩ := tab_mem hx
      exact .inl ⟨i, rfl⟩
    have oL : ∀ (w : Nat) (R : Mat), ∀ x ∈ lstM n w R, okOwn x := fun w R x hx => by
      obtain ⟨i, _, rfl⟩ := List.mem_map.mp hx
      exact .inr (.inr ⟨_, rfl⟩)
    refine ⟨_, _, _, _, _, _, rfl, fun x hx => ?_, oL _ _, oI _ _, oL _ _, oI _ _, ?_⟩
    · obtain ⟨r, _, rfl⟩ := List.mem_map.mp hx
      exact .inr (.inl ⟨_, rfl⟩)
    have eI : ∀ (w : Nat) (F : Nat → Int), (tabD w F).map ownD = tabD w F := fun w F => by
      unfold tabD
      rw [List.map_map]
      rfl
    have eL : ∀ (w : Nat) (R : Mat), (lstM n w R).map ownD = lstL n w R := fun w R => by
      unfold lstM lstL
      rw [List.map_map]
      rfl
    have eR : (m.rows.map (rowW (n + 1))).map ownD = m.rows.map (rowW (n + 1)) := by
      rw [List.map_map]
      rfl
    rw [eI, eI, eL, eL, eR]
    exact hK
  walk_at "go"
  refine ⟨_, _, rfl, rfl, fun x hx => ?_, fun x hx => ?_, ?_⟩
  · obtain ⟨r, _, rfl⟩ := List.mem_map.mp hx
    exact ⟨_, rfl⟩
  · obtain ⟨r, _, rfl⟩ := List.mem_map.mp hx
    exact ⟨_, _, rfl⟩
  generalize hd : (dSq (dJB (preRN (dMethN CT "pushes" (g1_Thing_pushes CT) (dVar 16))) []) (dSq (dJB (preRN (dMethN CT "modes" (g1_Thing_modes CT) (dVar 16))) []) (dSq (dRet (dCall 4 [] (g__law_right CM CT) (dCons (dVar 16) (dCons (dVar 2) (dCons (dVar 9) (dCons (dVar 6) dNil)))))) dNext))) = dT
  walk_at "go"
  refine ⟨n, ps, ms, rfl, ok, ?_⟩
  walk_at "go"
  refine ⟨plain_of (okk_mups n _ ms), plain_of (okk_pars n _ ms), ?_⟩
  rw [py_mups, eqv_self 64 _ (okk_pars n _ ms)]
  walk_at "go"
  refine ⟨n, ps, ms, rfl, ok, ?_⟩
  walk_at "go"
  refine ⟨⟨show 12 < 17 by decide, by decide, by decide, ms.map (mupD n ps.length), ms.map (mdI CM n ps.length), .mu (ps.map pD), rfl, by rw [List.length_map]; exact ok.m40, fun d hd => ?_, rfl, ⟨_, rfl, by rw [List.length_map]; have := ok.p6; omega, fun x hx => ?_⟩⟩, ?_⟩
  · obtain ⟨m, hm, rfl⟩ := List.mem_map.mp hd
    exact okPa_mup ok.n1 ok.n3 ok.p6 (ok.md m hm)
  · obtain ⟨r, _, rfl⟩ := List.mem_map.mp hx
    exact ⟨_, rfl⟩
  rw [← hd]
  exact law_tail (TlE.nm ⟨rfl, rfl, rfl, rfl⟩ [12] (by decide) (by decide) (by decide) (by decide)) ok q

structure Psk (ps : List (Int × Int)) : Prop where
  up : ∀ q ∈ ps, q.1 ≤ q.2
  pb : ∀ q ∈ ps, bnd 140 q.1 ∧ bnd 140 q.2
abbrev puT : DS := (dSq (dSet 10 (dCall 1 [] g__law_number (dCons (dOp kIx (dVarP 8) (dOp kMul (dC (.int 2)) (dVarP 7))) dNil))) (dApp 9 (dTup (dCons (dVar 10) (dCons (dOp kAdd (dVarP 10) (dOp kIx (dLst (dCons (dC (.int 0)) (dCons (dOp kMod (dOp kIx (dVarP 8) (dOp kAdd (dOp kMul (dC (.int 2)) (dVarP 7)) (dC (.int 1)))) (dC (.int 10))) (dCons (dOp kMul (dOp kIx (dVarP 8) (dOp kAdd (dOp kMul (dC (.int 2)) (dVarP 7)) (dC (.int 1)))) (dOp kPow (dC (.int 10)) (dC (.int 30)))) dNil)))) (dOp kMod (dOp kIx (dVarP 8) (dOp kAdd (dOp kMul (dC (.int 2)) (dVarP 7)) (dC (.int 1)))) (dC (.int 3))))) dNil)))))
theorem push_loop {X : Nat → Int} {d : DE} {a0 a1 a2 a3 a4 a5 a6 b1 b2 b3 b4 b5 b6 : Sl} (hX : ∀ j, 0 ≤ X j ∧ X j < 2147483647) : ∀ (u k : Nat) (ps : List (Int × Int)) (s7 s10 : Sl), k + u ≤ 6 → ps.length = k → Psk ps →
    (∀ (qs : List (Int × Int)) (s7 s10 : Sl), qs.length = k + u → Psk qs → d.nx [a0, a1, a2, a3, a4, a5, a6, s7, .sh (.lst (tabD 12 X)), .ow (qs.map pD), s10, b1, b2, b3, b4, b5, b6]) →
    loopD (gNm 7) puT d (irg (k : Int) u) [a0, a1, a2, a3, a4, a5, a6, s7, .sh (.lst (tabD 12 X)), .ow (ps.map pD), s10, b1, b2, b3, b4, b5, b6]
  | 0, k, ps, s7, s10, hk, hl, hp, h => lp_r0 (h ps s7 s10 hl hp)
  | u + 1, k, ps, s7, s10, hk, hl, hp, h => by
    have e0 : atI (tabD 12 X) (2 * (k : Int)) = some (.int (X (2 * k))) := by rw [show 2 * (k : Int) = ((2 * k : Nat) : Int) by omega, atI_nn, tab_get (by omega)]
    have e1 : atI (tabD 12 X) (2 * (k : Int) + 1) = some (.int (X (2 * k + 1))) := by rw [show 2 * (k : Int) + 1 = ((2 * k + 1 : Nat) : Int) by omega, atI_nn, tab_get (by omega)]
    have h0 := hX (2 * k)
    have h1 := hX (2 * k + 1)
    have pl : (ps.map pD).length ≤ 6 := by rw [List.length_map]; omega
    refine lp_rs ?_
    walk_at "go"
    rw [e0]
    walk_at "go"
    refine ⟨_, rfl, h0.1, h0.2, fun y hy => ?_⟩
    walk_at "go"
    rw [e1]
    walk_at "go"
    obtain ⟨z, ez, z0, zb⟩ := pickN [D.int 0, D.int ((X (2 * k + 1)).fmod 10), D.int (X (2 * k + 1) * 1000000000000000000000000000000)] 3 (X (2 * k + 1)) rfl (by decide) (fun z => 0 ≤ z ∧ bnd 136 z) fun d hd => by
      have a1 := Int.fmod_nonneg_of_pos (X (2 * k + 1)) (show (0 : Int) < 10 by decide)
      have a2 := Int.fmod_lt_of_pos (X (2 * k + 1)) (show (0 : Int) < 10 by decide)
      rcases List.mem_cons.mp hd with rfl | hd
      · exact ⟨_, rfl, by decide, bnd_of (by decide) (by decide)⟩
      rcases List.mem_cons.mp hd with rfl | hd
      · exact ⟨_, rfl, by omega, bnd_of (by omega) (by omega)⟩
      · rw [List.mem_singleton.mp hd]
        exact ⟨_, rfl, by omega, bnd_of (by omega) (by omega)⟩
    rw [e1]
    walk_at "go"
    rw [e1]
    walk_at "go"
    rw [ez]
    walk_at "go"
    have ih := push_loop (X := X) (d := d) (a0 := a0) (a1 := a1) (a2 := a2) (a3 := a3) (a4 := a4) (a5 := a5) (a6 := a6) (b1 := b1) (b2 := b2) (b3 := b3) (b4 := b4) (b5 := b5) (b6 := b6) hX u (k + 1) (ps ++ [(y, y + z)]) (.sh (.int k)) (.sh (.int y)) (by omega) (by rw [List.length_append, List.length_singleton, hl]) ⟨fun q hq => by
      rcases List.mem_append.mp hq with h | h
      · exact hp.up q h
      · rw [List.mem_singleton.mp h]
        show y ≤ y + z
        omega, fun q hq => by
      rcases List.mem_append.mp hq with h | h
      · exact hp.pb q h
      · rw [List.mem_singleton.mp h]
        exact ⟨bnd_mono hy (by decide), by
          show bnd 140 (y + z)
          unfold bnd at *
          omega⟩⟩ fun qs s7 s10 ql hq => h qs s7 s10 (by omega) hq
    rw [List.map_append] at ih
    exact ih
theorem law_c8 {CM CT : Addr} {n p : Nat} {ms : List Md} {cells : List Int} {Q E : EQ} {s1 s4 s5 s7 : Sl} (n1 : 1 ≤ n) (n3 : n ≤ 3) (p6 : p ≤ 6) (ne : ms ≠ []) (m40 : ms.length ≤ 40) (md : ∀ m ∈ ms, Md40 m) (q : Q (.bl true)) (hc : cells.length ≤ 63) :
    tb_law_c8 CM CT (dE Q E) [.sh (.frl (cells.map .int)), s1, .sh (.int n), .sh (.int p), s4, s5, .ow (ms.map (parD n p)), s7, .no, .no, .no, .no, .no, .no, .no, .no, .no] := by
  unfold tb_law_c8 dE
  generalize hd : tb_law_c11 CM CT = c11
  walk_at "go"
  refine ⟨cells, 11, _, rfl, .inl rfl, ?_⟩
  walk_at "go"
  refine ⟨_, 12, rfl, by decide, fun X hX => ?_⟩
  walk_at "go"
  rw [Int.toNat_natCast]
  refine push_loop hX p 0 [] _ _ (by omega) rfl ⟨(fun q h => nomatch h), (fun q h => nomatch h)⟩ fun ps s7 s10 pl pk => ?_
  rw [Nat.zero_add] at pl
  subst pl
  walk_at "go"
  rw [← hd]
  exact law_c11 ⟨n1, n3, p6, pk.up, pk.pb, ne, m40, md⟩ q
theorem mode_loop {CM CT : Addr} {n p : Nat} {y : Int} {cells : List Int} {d : DE} {s1 s4 b1 b2 b3 b4 b5 b6 b7 b8 b9 : Sl} (n1 : 1 ≤ n) (n3 : n ≤ 3) (p6 : p ≤ 6) : ∀ (u k : Nat) (ms : List Md) (s7 : Sl), k + u ≤ 40 → ms.length = k → (∀ m ∈ ms, Md40 m) →
    (∀ (ms : List Md) (s7 : Sl), ms.length = k + u → (∀ m ∈ ms, Md40 m) → d.nx [.sh (.frl (cells.map .int)), s1, .sh (.int n), .sh (.int p), s4, .sh (.int y), .ow (ms.map (parD n p)), s7, b1, b2, b3, b4, b5, b6, b7, b8, b9]) →
    loopD (gNm 7) (dApp 6 (dCall 4 [] g__law_mode (dCons (dOp kAdd (dCall 2 [] g__law_cell_at (dCons (dVar 0) (dCons (dOp kAdd (dC (.int 2)) (dOp kMod (dVarP 7) (dC (.int 9)))) dNil))) (dOp kMul (dC (.int 7919)) (dVarP 7))) (dCons (dVar 2) (dCons (dVar 3) (dCons (dVar 5) dNil)))))) d (irg (k : Int) u) [.sh (.frl (cells.map .int)), s1, .sh (.int n), .sh (.int p), s4, .sh (.int y), .ow (ms.map (parD n p)), s7, b1, b2, b3, b4, b5, b6, b7, b8, b9]
  | 0, k, ms, s7, hk, hl, hm, h => lp_r0 (h ms s7 hl hm)
  | u + 1, k, ms, s7, hk, hl, hm, h => by
    have pl : (ms.map (parD n p)).length ≤ 40 := by rw [List.length_map]; omega
    have m1 := Int.fmod_nonneg_of_pos (k : Int) (show (0 : Int) < 9 by decide)
    refine lp_rs ?_
    walk_at "go"
    refine ⟨cells, (2 + (k : Int).fmod 9).toNat, _, by rw [show (((2 + (k : Int).fmod 9).toNat : Nat) : Int) = 2 + (k : Int).fmod 9 by omega], .inl rfl, ?_⟩
    walk_at "go"
    refine ⟨_, n, p, y, rfl, n1, n3, p6, fun m hm' => ⟨few_of (by rw [List.length_append, List.length_singleton]; omega), ?_⟩⟩
    have ih := mode_loop (CM := CM) (CT := CT) (y := y) (cells := cells) (d := d) (s1 := s1) (s4 := s4) (b1 := b1) (b2 := b2) (b3 := b3) (b4 := b4) (b5 := b5) (b6 := b6) (b7 := b7) (b8 := b8) (b9 := b9) n1 n3 p6 u (k + 1) (ms ++ [m]) (.sh (.int k)) (by omega) (by rw [List.length_append, List.length_singleton, hl]) (fun q hq => by
      rcases List.mem_append.mp hq with h | h
      · exact hm q h
      · rw [List.mem_singleton.mp h]
        exact hm') fun qs s7 ql hq => h qs s7 (by omega) hq
    rw [List.map_append] at ih
    exact ih
theorem law_c5 {CM CT : Addr} {n p w : Nat} {cells : List Int} {Q E : EQ} {s1 : Sl} (n1 : 1 ≤ n) (n3 : n ≤ 3) (p6 : p ≤ 6) (w1 : 1 ≤ w) (w40 : w ≤ 40) (q : Q (.bl true)) (hc : cells.length ≤ 63) :
    tb_law_c5 CM CT (dE Q E) [.sh (.frl (cells.map .int)), s1, .sh (.int n), .sh (.int p), .sh (.int w), .no, .no, .no, .no, .no, .no, .no, .no, .no, .no, .no, .no] := by
  unfold tb_law_c5 dE
  generalize hd : tb_law_c8 CM CT = c8
  walk_at "go"
  refine ⟨cells, 1, _, rfl, .inl rfl, ?_⟩
  walk_at "go"
  rw [Int.toNat_natCast]
  refine mode_loop (CM := CM) (CT := CT) n1 n3 p6 w 0 [] _ (by omega) rfl (fun m h => nomatch h) fun ms s7 ml md => ?_
  rw [← hd]
  exact law_c8 n1 n3 p6 (fun z => by rw [z] at ml; exact absurd ml (by show ¬ 0 = 0 + w; omega)) (by omega) md q hc
theorem rd_law {K : PySem.W.Frag} {CM CT : Addr} (hK : ThK K CM CT) (ds : List D) (Q E : EQ) (_ : ds.length = 1) (h : g_law ds Q E) : tb_law CM CT (dE Q E) (startD N_law ds) := by
  obtain ⟨cells, rfl, hc, hb, q⟩ := h
  unfold tb_law dE
  generalize hd : tb_law_c5 CM CT = c5
  walk_at "go"
  refine ⟨cells, 0, _, rfl, .inl rfl, ?_⟩
  generalize cells.getD 0 0 = c
  walk_at "go"
  have a1 := Int.fmod_nonneg_of_pos c (show (0 : Int) < 3 by decide)
  have a2 := Int.fmod_lt_of_pos c (show (0 : Int) < 3 by decide)
  have b1 := Int.fmod_nonneg_of_pos (c.fdiv 3) (show (0 : Int) < 7 by decide)
  have b2 := Int.fmod_lt_of_pos (c.fdiv 3) (show (0 : Int) < 7 by decide)
  obtain ⟨z, ez, z1, z5⟩ := pickN [D.int 1, D.int (1 + (c.fdiv 21).fmod 5), D.int 2, D.int (1 + (c.fdiv 21).fmod 5)] 4 (c.fdiv 105) rfl (by decide) (fun z => 1 ≤ z ∧ z ≤ 40) fun d hd => by
    have a1 := Int.fmod_nonneg_of_pos (c.fdiv 21) (show (0 : Int) < 5 by decide)
    have a2 := Int.fmod_lt_of_pos (c.fdiv 21) (show (0 : Int) < 5 by decide)
    rcases List.mem_cons.mp hd with rfl | hd
    · exact ⟨_, rfl, by decide, by decide⟩
    rcases List.mem_cons.mp hd with rfl | hd
    · exact ⟨_, rfl, by omega, by omega⟩
    rcases List.mem_cons.mp hd with rfl | hd
    · exact ⟨_, rfl, by decide, by decide⟩
    · rw [List.mem_singleton.mp hd]
      exact ⟨_, rfl, by omega, by omega⟩
  rw [ez]
  have en : 1 + c.fmod 3 = (((1 + c.fmod 3).toNat : Nat) : Int) := by omega
  have ep : (c.fdiv 3).fmod 7 = ((((c.fdiv 3).fmod 7).toNat : Nat) : Int) := by omega
  have ew : z = ((z.toNat : Nat) : Int) := by omega
  rw [en, ep, ew]
  generalize hn : (1 + c.fmod 3).toNat = n
  generalize hp : ((c.fdiv 3).fmod 7).toNat = p
  generalize hw : z.toNat = w
  walk_at "go"
  by_cases c8 : (c.fdiv 420).fmod 8 = 5
  · rw [decide_eq_true c8]
    walk_at "go"
    rw [← hd]
    exact law_c5 (w := 40) (by omega) (by omega) (by omega) (by omega) (by omega) q hc
  · rw [decide_eq_false c8]
    walk_at "rd"
    rw [← hd]
    exact law_c5 (w := w) (by omega) (by omega) (by omega) (by omega) (by omega) q hc
end K11

end
namespace K11
open PySem PySem.Spec
open PyProof.Rows L2 Dl
theorem al1 {fd : FuncData} {ps : List Str} (h : ∀ a0 : Value, bindArgs fd ⟨[a0], []⟩ = pure (ps.zip [a0])) : ∀ us : List Value, us.length = 1 → bindArgs fd ⟨us, []⟩ = pure (ps.zip us)
  | [_], _ => h _
theorem al2 {fd : FuncData} {ps : List Str} (h : ∀ a0 a1 : Value, bindArgs fd ⟨[a0, a1], []⟩ = pure (ps.zip [a0, a1])) : ∀ us : List Value, us.length = 2 → bindArgs fd ⟨us, []⟩ = pure (ps.zip us)
  | [_, _], _ => h _ _
theorem al3 {fd : FuncData} {ps : List Str} (h : ∀ a0 a1 a2 : Value, bindArgs fd ⟨[a0, a1, a2], []⟩ = pure (ps.zip [a0, a1, a2])) : ∀ us : List Value, us.length = 3 → bindArgs fd ⟨us, []⟩ = pure (ps.zip us)
  | [_, _, _], _ => h _ _ _
theorem al4 {fd : FuncData} {ps : List Str} (h : ∀ a0 a1 a2 a3 : Value, bindArgs fd ⟨[a0, a1, a2, a3], []⟩ = pure (ps.zip [a0, a1, a2, a3])) : ∀ us : List Value, us.length = 4 → bindArgs fd ⟨us, []⟩ = pure (ps.zip us)
  | [_, _, _, _], _ => h _ _ _ _
theorem al7 {fd : FuncData} {ps : List Str} (h : ∀ a0 a1 a2 a3 a4 a5 a6 : Value, bindArgs fd ⟨[a0, a1, a2, a3, a4, a5, a6], []⟩ = pure (ps.zip [a0, a1, a2, a3, a4, a5, a6])) : ∀ us : List Value, us.length = 7 → bindArgs fd ⟨us, []⟩ = pure (ps.zip us)
  | [_, _, _, _, _, _, _], _ => h _ _ _ _ _ _ _
theorem all_mk {l : PySem.W.OpenLaw} {w : World} {K : PySem.W.Frag} {h : Heap} {mg : Str → Option Value} {fa f0 f1 f2 f3 f4 f5 f6 f7 f8 f9 f10 f11 f12 f13 f14 f15 f16 f17 f18 f19 f20 f21 f22 f23 C_Mode C_Thing : Addr} (X : K.In h) (G : h.Ns mainGlobals mg) (hfa : mg "law" = some (.ref fa))
    {oc0 kV0 doc0 pm0 cd0 ct0 : Value} {od0 an0 : Option Addr} {sl0 : Array (Option Value)}
    {oc1 kV1 doc1 pm1 cd1 ct1 : Value} {od1 an1 : Option Addr} {sl1 : Array (Option Value)}
    {oc2 kV2 doc2 pm2 cd2 ct2 : Value} {od2 an2 : Option Addr} {sl2 : Array (Option Value)}
    {oc3 kV3 doc3 pm3 cd3 ct3 : Value} {od3 an3 : Option Addr} {sl3 : Array (Option Value)}
    {oc4 kV4 doc4 pm4 cd4 ct4 : Value} {od4 an4 : Option Addr} {sl4 : Array (Option Value)}
    {oc5 kV5 doc5 pm5 cd5 ct5 : Value} {od5 an5 : Option Addr} {sl5 : Array (Option Value)}
    {oc6 kV6 doc6 pm6 cd6 ct6 : Value} {od6 an6 : Option Addr} {sl6 : Array (Option Value)}
    {oc7 kV7 doc7 pm7 cd7 ct7 : Value} {od7 an7 : Option Addr} {sl7 : Array (Option Value)}
    {oc8 kV8 doc8 pm8 cd8 ct8 : Value} {od8 an8 : Option Addr} {sl8 : Array (Option Value)}
    {oc9 kV9 doc9 pm9 cd9 ct9 : Value} {od9 an9 : Option Addr} {sl9 : Array (Option Value)}
    {oc10 kV10 doc10 pm10 cd10 ct10 : Value} {od10 an10 : Option Addr} {sl10 : Array (Option Value)}
    {oc11 kV11 doc11 pm11 cd11 ct11 : Value} {od11 an11 : Option Addr} {sl11 : Array (Option Value)}
    {oc12 kV12 doc12 pm12 cd12 ct12 : Value} {od12 an12 : Option Addr} {sl12 : Array (Option Value)}
    {oc13 kV13 doc13 pm13 cd13 ct13 : Value} {od13 an13 : Option Addr} {sl13 : Array (Option Value)}
    {oc14 kV14 doc14 pm14 cd14 ct14 : Value} {od14 an14 : Option Addr} {sl14 : Array (Option Value)}
    {oc15 kV15 doc15 pm15 cd15 ct15 : Value} {od15 an15 : Option Addr} {sl15 : Array (Option Value)}
    {oc16 kV16 doc16 pm16 cd16 ct16 : Value} {od16 an16 : Option Addr} {sl16 : Array (Option Value)}
    {oc17 kV17 doc17 pm17 cd17 ct17 : Value} {od17 an17 : Option Addr} {sl17 : Array (Option Value)}
    {oc18 kV18 doc18 pm18 cd18 ct18 : Value} {od18 an18 : Option Addr} {sl18 : Array (Option Value)}
    {oc19 kV19 doc19 pm19 cd19 ct19 : Value} {od19 an19 : Option Addr} {sl19 : Array (Option Value)}
    {oc20 kV20 doc20 pm20 cd20 ct20 : Value} {od20 an20 : Option Addr} {sl20 : Array (Option Value)}
    {oc21 kV21 doc21 pm21 cd21 ct21 : Value} {od21 an21 : Option Addr} {sl21 : Array (Option Value)}
    {oc22 kV22 doc22 pm22 cd22 ct22 : Value} {od22 an22 : Option Addr} {sl22 : Array (Option Value)}
    {oc23 kV23 doc23 pm23 cd23 ct23 : Value} {od23 an23 : Option Addr} {sl23 : Array (Option Value)}
    {tg_MOST_MODES : Tok}
    {tg_MOST_NUMBERS : Tok}
    {tg_MOST_PUSHES : Tok}
    (aC_Mode : PySem.W.nsIn K mainGlobals "Mode" = some (some (.ref C_Mode)))
    (aC_Thing : PySem.W.nsIn K mainGlobals "Thing" = some (some (.ref C_Thing)))
    (a0 : PySem.W.nsIn K mainGlobals "is_whole" = some (some (.ref f0)))
    (l0 : K.lookup f0 = some ⟨oc0, od0, .func (PySem.W.fnOf "is_whole" "is_whole" (defArgs s_is_whole) (defBody s_is_whole) (defScope s_is_whole) .none kV0 doc0 pm0 an0 cd0 ct0), sl0⟩)
    (c0 : PySem.W.codeIn K cd0 "is_whole" = true)
    (k0 : PySem.W.keepIn K (.ref f0) = true)
    (a1 : PySem.W.nsIn K mainGlobals "own" = some (some (.ref f1)))
    (l1 : K.lookup f1 = some ⟨oc1, od1, .func (PySem.W.fnOf "own" "own" (defArgs s_own) (defBody s_own) (defScope s_own) .none kV1 doc1 pm1 an1 cd1 ct1), sl1⟩)
    (c1 : PySem.W.codeIn K cd1 "own" = true)
    (k1 : PySem.W.keepIn K (.ref f1) = true)
    (a2 : PySem.W.nsIn K mainGlobals "own_list" = some (some (.ref f2)))
    (l2 : K.lookup f2 = some ⟨oc2, od2, .func (PySem.W.fnOf "own_list" "own_list" (defArgs s_own_list) (defBody s_own_list) (defScope s_own_list) .none kV2 doc2 pm2 an2 cd2 ct2), sl2⟩)
    (c2 : PySem.W.codeIn K cd2 "own_list" = true)
    (k2 : PySem.W.keepIn K (.ref f2) = true)
    (a3 : PySem.W.nsIn K mainGlobals "are_wholes" = some (some (.ref f3)))
    (l3 : K.lookup f3 = some ⟨oc3, od3, .func (PySem.W.fnOf "are_wholes" "are_wholes" (defArgs s_are_wholes) (defBody s_are_wholes) (defScope s_are_wholes) .none kV3 doc3 pm3 an3 cd3 ct3), sl3⟩)
    (c3 : PySem.W.codeIn K cd3 "are_wholes" = true)
    (k3 : PySem.W.keepIn K (.ref f3) = true)
    (a4 : PySem.W.nsIn K mainGlobals "is_row" = some (some (.ref f4)))
    (l4 : K.lookup f4 = some ⟨oc4, od4, .func (PySem.W.fnOf "is_row" "is_row" (defArgs s_is_row) (defBody s_is_row) (defScope s_is_row) .none kV4 doc4 pm4 an4 cd4 ct4), sl4⟩)
    (c4 : PySem.W.codeIn K cd4 "is_row" = true)
    (k4 : PySem.W.keepIn K (.ref f4) = true)
    (a5 : PySem.W.nsIn K mainGlobals "is_room" = some (some (.ref f5)))
    (l5 : K.lookup f5 = some ⟨oc5, od5, .func (PySem.W.fnOf "is_room" "is_room" (defArgs s_is_room) (defBody s_is_room) (defScope s_is_room) .none kV5 doc5 pm5 an5 cd5 ct5), sl5⟩)
    (c5 : PySem.W.codeIn K cd5 "is_room" = true)
    (k5 : PySem.W.keepIn K (.ref f5) = true)
    (a6 : PySem.W.nsIn K mainGlobals "is_table" = some (some (.ref f6)))
    (l6 : K.lookup f6 = some ⟨oc6, od6, .func (PySem.W.fnOf "is_table" "is_table" (defArgs s_is_table) (defBody s_is_table) (defScope s_is_table) .none kV6 doc6 pm6 an6 cd6 ct6), sl6⟩)
    (c6 : PySem.W.codeIn K cd6 "is_table" = true)
    (k6 : PySem.W.keepIn K (.ref f6) = true)
    (a7 : PySem.W.findIn K (.ref C_Mode) "__init__" = some (some (.ref f7)))
    (l7 : K.lookup f7 = some ⟨oc7, od7, .func (PySem.W.fnOf "__init__" "Mode.__init__" (defArgs s_Mode_init) (defBody s_Mode_init) (defScope s_Mode_init) .none kV7 doc7 pm7 an7 cd7 ct7), sl7⟩)
    (c7 : PySem.W.codeIn K cd7 "Mode.__init__" = true)
    (k7 : PySem.W.keepIn K (.ref f7) = true)
    (n7 : PySem.W.isFn K (.ref f7) = true)
    (a8 : PySem.W.nsIn K mainGlobals "is_mode" = some (some (.ref f8)))
    (l8 : K.lookup f8 = some ⟨oc8, od8, .func (PySem.W.fnOf "is_mode" "is_mode" (defArgs s_is_mode) (defBody s_is_mode) (defScope s_is_mode) .none kV8 doc8 pm8 an8 cd8 ct8), sl8⟩)
    (c8 : PySem.W.codeIn K cd8 "is_mode" = true)
    (k8 : PySem.W.keepIn K (.ref f8) = true)
    (a9 : PySem.W.nsIn K mainGlobals "is_push" = some (some (.ref f9)))
    (l9 : K.lookup f9 = some ⟨oc9, od9, .func (PySem.W.fnOf "is_push" "is_push" (defArgs s_is_push) (defBody s_is_push) (defScope s_is_push) .none kV9 doc9 pm9 an9 cd9 ct9), sl9⟩)
    (c9 : PySem.W.codeIn K cd9 "is_push" = true)
    (k9 : PySem.W.keepIn K (.ref f9) = true)
    (a10 : PySem.W.findIn K (.ref C_Thing) "__init__" = some (some (.ref f10)))
    (l10 : K.lookup f10 = some ⟨oc10, od10, .func (PySem.W.fnOf "__init__" "Thing.__init__" (defArgs s_Thing_init) (defBody s_Thing_init) (defScope s_Thing_init) .none kV10 doc10 pm10 an10 cd10 ct10), sl10⟩)
    (c10 : PySem.W.codeIn K cd10 "Thing.__init__" = true)
    (k10 : PySem.W.keepIn K (.ref f10) = true)
    (n10 : PySem.W.isFn K (.ref f10) = true)
    (a11 : PySem.W.findIn K (.ref C_Thing) "pushes" = some (some (.ref f11)))
    (l11 : K.lookup f11 = some ⟨oc11, od11, .func (PySem.W.fnOf "pushes" "Thing.pushes" (defArgs s_Thing_pushes) (defBody s_Thing_pushes) (defScope s_Thing_pushes) .none kV11 doc11 pm11 an11 cd11 ct11), sl11⟩)
    (c11 : PySem.W.codeIn K cd11 "Thing.pushes" = true)
    (k11 : PySem.W.keepIn K (.ref f11) = true)
    (n11 : PySem.W.isFn K (.ref f11) = true)
    (a12 : PySem.W.findIn K (.ref C_Thing) "modes" = some (some (.ref f12)))
    (l12 : K.lookup f12 = some ⟨oc12, od12, .func (PySem.W.fnOf "modes" "Thing.modes" (defArgs s_Thing_modes) (defBody s_Thing_modes) (defScope s_Thing_modes) .none kV12 doc12 pm12 an12 cd12 ct12), sl12⟩)
    (c12 : PySem.W.codeIn K cd12 "Thing.modes" = true)
    (k12 : PySem.W.keepIn K (.ref f12) = true)
    (n12 : PySem.W.isFn K (.ref f12) = true)
    (a13 : PySem.W.findIn K (.ref C_Thing) "is_closed" = some (some (.ref f13)))
    (l13 : K.lookup f13 = some ⟨oc13, od13, .func (PySem.W.fnOf "is_closed" "Thing.is_closed" (defArgs s_Thing_is_closed) (defBody s_Thing_is_closed) (defScope s_Thing_is_closed) .none kV13 doc13 pm13 an13 cd13 ct13), sl13⟩)
    (c13 : PySem.W.codeIn K cd13 "Thing.is_closed" = true)
    (k13 : PySem.W.keepIn K (.ref f13) = true)
    (n13 : PySem.W.isFn K (.ref f13) = true)
    (a14 : PySem.W.findIn K (.ref C_Thing) "is_plain" = some (some (.ref f14)))
    (l14 : K.lookup f14 = some ⟨oc14, od14, .func (PySem.W.fnOf "is_plain" "Thing.is_plain" (defArgs s_Thing_is_plain) (defBody s_Thing_is_plain) (defScope s_Thing_is_plain) .none kV14 doc14 pm14 an14 cd14 ct14), sl14⟩)
    (c14 : PySem.W.codeIn K cd14 "Thing.is_plain" = true)
    (k14 : PySem.W.keepIn K (.ref f14) = true)
    (n14 : PySem.W.isFn K (.ref f14) = true)
    (a15 : PySem.W.nsIn K mainGlobals "_law_cell_at" = some (some (.ref f15)))
    (l15 : K.lookup f15 = some ⟨oc15, od15, .func (PySem.W.fnOf "_law_cell_at" "_law_cell_at" (defArgs s__law_cell_at) (defBody s__law_cell_at) (defScope s__law_cell_at) .none kV15 doc15 pm15 an15 cd15 ct15), sl15⟩)
    (c15 : PySem.W.codeIn K cd15 "_law_cell_at" = true)
    (k15 : PySem.W.keepIn K (.ref f15) = true)
    (a16 : PySem.W.nsIn K mainGlobals "_law_stream" = some (some (.ref f16)))
    (l16 : K.lookup f16 = some ⟨oc16, od16, .func (PySem.W.fnOf "_law_stream" "_law_stream" (defArgs s__law_stream) (defBody s__law_stream) (defScope s__law_stream) .none kV16 doc16 pm16 an16 cd16 ct16), sl16⟩)
    (c16 : PySem.W.codeIn K cd16 "_law_stream" = true)
    (k16 : PySem.W.keepIn K (.ref f16) = true)
    (a17 : PySem.W.nsIn K mainGlobals "_law_number" = some (some (.ref f17)))
    (l17 : K.lookup f17 = some ⟨oc17, od17, .func (PySem.W.fnOf "_law_number" "_law_number" (defArgs s__law_number) (defBody s__law_number) (defScope s__law_number) .none kV17 doc17 pm17 an17 cd17 ct17), sl17⟩)
    (c17 : PySem.W.codeIn K cd17 "_law_number" = true)
    (k17 : PySem.W.keepIn K (.ref f17) = true)
    (a18 : PySem.W.nsIn K mainGlobals "_law_mode" = some (some (.ref f18)))
    (l18 : K.lookup f18 = some ⟨oc18, od18, .func (PySem.W.fnOf "_law_mode" "_law_mode" (defArgs s__law_mode) (defBody s__law_mode) (defScope s__law_mode) .none kV18 doc18 pm18 an18 cd18 ct18), sl18⟩)
    (c18 : PySem.W.codeIn K cd18 "_law_mode" = true)
    (k18 : PySem.W.keepIn K (.ref f18) = true)
    (a19 : PySem.W.nsIn K mainGlobals "_law_copied" = some (some (.ref f19)))
    (l19 : K.lookup f19 = some ⟨oc19, od19, .func (PySem.W.fnOf "_law_copied" "_law_copied" (defArgs s__law_copied) (defBody s__law_copied) (defScope s__law_copied) .none kV19 doc19 pm19 an19 cd19 ct19), sl19⟩)
    (c19 : PySem.W.codeIn K cd19 "_law_copied" = true)
    (k19 : PySem.W.keepIn K (.ref f19) = true)
    (a20 : PySem.W.nsIn K mainGlobals "_law_spoil" = some (some (.ref f20)))
    (l20 : K.lookup f20 = some ⟨oc20, od20, .func (PySem.W.fnOf "_law_spoil" "_law_spoil" (defArgs s__law_spoil) (defBody s__law_spoil) (defScope s__law_spoil) .none kV20 doc20 pm20 an20 cd20 ct20), sl20⟩)
    (c20 : PySem.W.codeIn K cd20 "_law_spoil" = true)
    (k20 : PySem.W.keepIn K (.ref f20) = true)
    (a21 : PySem.W.nsIn K mainGlobals "_law_same" = some (some (.ref f21)))
    (l21 : K.lookup f21 = some ⟨oc21, od21, .func (PySem.W.fnOf "_law_same" "_law_same" (defArgs s__law_same) (defBody s__law_same) (defScope s__law_same) .none kV21 doc21 pm21 an21 cd21 ct21), sl21⟩)
    (c21 : PySem.W.codeIn K cd21 "_law_same" = true)
    (k21 : PySem.W.keepIn K (.ref f21) = true)
    (a22 : PySem.W.nsIn K mainGlobals "_law_right" = some (some (.ref f22)))
    (l22 : K.lookup f22 = some ⟨oc22, od22, .func (PySem.W.fnOf "_law_right" "_law_right" (defArgs s__law_right) (defBody s__law_right) (defScope s__law_right) .none kV22 doc22 pm22 an22 cd22 ct22), sl22⟩)
    (c22 : PySem.W.codeIn K cd22 "_law_right" = true)
    (k22 : PySem.W.keepIn K (.ref f22) = true)
    (a23 : PySem.W.nsIn K mainGlobals "law" = some (some (.ref f23)))
    (l23 : K.lookup f23 = some ⟨oc23, od23, .func (PySem.W.fnOf "law" "law" (defArgs s_law) (defBody s_law) (defScope s_law) .none kV23 doc23 pm23 an23 cd23 ct23), sl23⟩)
    (c23 : PySem.W.codeIn K cd23 "law" = true)
    (k23 : PySem.W.keepIn K (.ref f23) = true)
    (z0 : PySem.W.nsIn K mainGlobals "all" = some none)
    (z1 : PySem.W.nsIn K mainGlobals "bool" = some none)
    (z2 : PySem.W.nsIn K mainGlobals "int" = some none)
    (z3 : PySem.W.nsIn K mainGlobals "isinstance" = some none)
    (z4 : PySem.W.nsIn K mainGlobals "len" = some none)
    (z5 : PySem.W.nsIn K mainGlobals "list" = some none)
    (z6 : PySem.W.nsIn K mainGlobals "range" = some none)
    (z7 : PySem.W.nsIn K mainGlobals "tuple" = some none)
    (z8 : PySem.W.nsIn K mainGlobals "zip" = some none)
    (g_MOST_MODES : PySem.W.nsIn K mainGlobals "MOST_MODES" = some (some (.int 40 tg_MOST_MODES)))
    (g_MOST_NUMBERS : PySem.W.nsIn K mainGlobals "MOST_NUMBERS" = some (some (.int 3 tg_MOST_NUMBERS)))
    (g_MOST_PUSHES : PySem.W.nsIn K mainGlobals "MOST_PUSHES" = some (some (.int 6 tg_MOST_PUSHES)))
    (q0 : PySem.W.plainGet K C_Thing Str.empty = true)
    (q1 : PySem.W.hasDictIn K C_Thing = true)
    (q2 : PySem.W.plainOver K C_Thing = true)
    (q3 : PySem.W.findIn K (.ref C_Thing) "__setattr__" = some (some (.builtin "object.__setattr__")))
    (q4 : PySem.W.plainGet K C_Mode Str.empty = true)
    (q5 : PySem.W.hasDictIn K C_Mode = true)
    (q6 : PySem.W.plainOver K C_Mode = true)
    (q7 : PySem.W.findIn K (.ref C_Mode) "__setattr__" = some (some (.builtin "object.__setattr__")))
    (q8 : PySem.W.findIn K (.ref C_Mode) "rows" = some none)
    (q9 : PySem.W.findIn K (.ref C_Mode) "nexts" = some none)
    (q10 : PySem.W.findIn K (.ref C_Mode) "steer" = some none)
    (q11 : PySem.W.findIn K (.ref C_Mode) "push" = some none)
    (q12 : PySem.W.findIn K (.ref C_Mode) "add" = some none)
    (q13 : PySem.W.findIn K (.ref C_Mode) "divisor" = some none)
    (q14 : PySem.W.findIn K (.ref C_Thing) "many" = some none)
    (q15 : PySem.W.findIn K (.ref C_Thing) "bounds" = some none)
    (q16 : PySem.W.findIn K (.ref C_Thing) "ways" = some none)
    (q17 : PySem.W.findIn K (.ref C_Mode) "__class__" = some (some (.builtin "object.__class__")))
    (q18 : PySem.W.specialIn K (.builtin "object.__class__") "__get__" = some (some (.builtin "getset_descriptor.__get__")))
    (q19 : PySem.W.takesIn K (.builtin "object.__class__") = some true)
    (q20 : PySem.W.mroIn K C_Mode (.type "object") = some true)
    (q21 : PySem.W.findIn K (.ref C_Thing) "__class__" = some (some (.builtin "object.__class__")))
    (q22 : PySem.W.mroIn K C_Thing (.type "object") = some true)
    (q23 : PySem.W.isClsIn K C_Mode = true)
    (q24 : PySem.W.typeIn K (.ref C_Mode) = some (.type "type"))
    (q25 : PySem.W.subIn K (.ref C_Mode) (.ref C_Mode) = some true)
    (q26 : PySem.W.subIn K (.type "int") (.ref C_Mode) = some false)
    (q27 : ((((.type "int") : Value) == (.ref C_Mode : Value)) : Bool) = false)
    (q28 : PySem.W.subIn K (.type "bool") (.ref C_Mode) = some false)
    (q29 : ((((.type "bool") : Value) == (.ref C_Mode : Value)) : Bool) = false)
    (q30 : PySem.W.subIn K (.type "NoneType") (.ref C_Mode) = some false)
    (q31 : ((((.type "NoneType") : Value) == (.ref C_Mode : Value)) : Bool) = false)
    (q32 : PySem.W.subIn K (.type "str") (.ref C_Mode) = some false)
    (q33 : ((((.type "str") : Value) == (.ref C_Mode : Value)) : Bool) = false)
    (q34 : PySem.W.subIn K (.type "tuple") (.ref C_Mode) = some false)
    (q35 : ((((.type "tuple") : Value) == (.ref C_Mode : Value)) : Bool) = false)
    (q36 : PySem.W.subIn K (.type "list") (.ref C_Mode) = some false)
    (q37 : ((((.type "list") : Value) == (.ref C_Mode : Value)) : Bool) = false)
    (q38 : PySem.W.subIn K (.type "dict") (.ref C_Mode) = some false)
    (q39 : ((((.type "dict") : Value) == (.ref C_Mode : Value)) : Bool) = false)
    (q40 : PySem.W.makesIn K C_Mode = true)
    (q41 : PySem.W.keepIn K (.ref C_Mode) = true)
    (q42 : PySem.W.makesIn K C_Thing = true)
    (q43 : PySem.W.keepIn K (.ref C_Thing) = true) :
    ∃ fd : FuncData, (∀ (s : Shared) (u : Value), BindsTo s fd ⟨[u], []⟩ [("_law_script", u)]) ∧
      ∀ base : Heap, K.In base → base.Ns mainGlobals mg → FnOk l.prog w K mg base (L2.CX l.prog w) 7 fa fd ["_law_script"] (spD K 1 (gLaw 63)) := by
  have e := hfa.symm.trans (PySem.W.mg_of X G a23)
  cases e
  have T : Txt K mg f0 f1 f2 f3 f4 f5 f6 f7 f8 f9 f10 f11 f12 f13 f14 f15 f16 f17 f18 f19 f20 f21 f22 _ C_Mode C_Thing := ⟨PySem.W.mg_none_of X G z0, PySem.W.mg_none_of X G z1, PySem.W.mg_none_of X G z2, PySem.W.mg_none_of X G z3, PySem.W.mg_none_of X G z4, PySem.W.mg_none_of X G z5, PySem.W.mg_none_of X G z6, PySem.W.mg_none_of X G z7, PySem.W.mg_none_of X G z8, PySem.W.mg_of X G a0, PySem.W.mg_of X G a1, PySem.W.mg_of X G a2, PySem.W.mg_of X G a3, PySem.W.mg_of X G a4, PySem.W.mg_of X G a5, PySem.W.mg_of X G a6, PySem.W.mg_of X G a8, PySem.W.mg_of X G a9, PySem.W.mg_of X G a15, PySem.W.mg_of X G a16, PySem.W.mg_of X G a17, PySem.W.mg_of X G a18, PySem.W.mg_of X G a19, PySem.W.mg_of X G a20, PySem.W.mg_of X G a21, PySem.W.mg_of X G a22, PySem.W.mg_of X G a23, ⟨_, PySem.W.mg_of X G g_MOST_MODES⟩, ⟨_, PySem.W.mg_of X G g_MOST_NUMBERS⟩, ⟨_, PySem.W.mg_of X G g_MOST_PUSHES⟩, PySem.W.mg_of X G aC_Mode, PySem.W.mg_of X G aC_Thing, ⟨q0, q1, q2, q3⟩, ⟨a13, n13, k13⟩, ⟨a14, n14, k14⟩, ⟨a12, n12, k12⟩, ⟨a11, n11, k11⟩, ⟨⟨⟨q4, q5, q6, q7⟩, q8⟩, ⟨⟨q4, q5, q6, q7⟩, q9⟩, ⟨⟨q4, q5, q6, q7⟩, q10⟩, ⟨⟨q4, q5, q6, q7⟩, q11⟩, ⟨⟨q4, q5, q6, q7⟩, q12⟩, ⟨⟨q4, q5, q6, q7⟩, q13⟩, ⟨⟨q0, q1, q2, q3⟩, q14⟩, ⟨⟨q0, q1, q2, q3⟩, q15⟩, ⟨⟨q0, q1, q2, q3⟩, q16⟩, ⟨⟨q4, q5, q6, q7⟩, q17, q18, q19, q20⟩, ⟨⟨q0, q1, q2, q3⟩, q21, q18, q19, q22⟩, kit_of q23 q24 q25 (fun _ => rfl), kit_of q23 q24 q26 (fun z => absurd (z.symm.trans q27) (fun y => nomatch y)), kit_of q23 q24 q28 (fun z => absurd (z.symm.trans q29) (fun y => nomatch y)), kit_of q23 q24 q30 (fun z => absurd (z.symm.trans q31) (fun y => nomatch y)), kit_of q23 q24 q32 (fun z => absurd (z.symm.trans q33) (fun y => nomatch y)), kit_of q23 q24 q34 (fun z => absurd (z.symm.trans q35) (fun y => nomatch y)), kit_of q23 q24 q36 (fun z => absurd (z.symm.trans q37) (fun y => nomatch y)), kit_of q23 q24 q38 (fun z => absurd (z.symm.trans q39) (fun y => nomatch y))⟩⟩
  refine ⟨PySem.W.fnOf "law" "law" (defArgs s_law) (defBody s_law) (defScope s_law) .none kV23 doc23 pm23 an23 cd23 ct23, fun s v => .of_eq rfl, fun base _ _ => ?_⟩
  have D__law_cell_at : FD l.prog w K mg base 1 f15 2 [] g__law_cell_at := ⟨⟨_, _, [], [], def_okA l15 c15 sc__law_cell_at rfl (fun cdv A outer s H E hr => der__law_cell_at T hr) rd__law_cell_at, .all (al2 fun _ _ => rfl), .nil, fun _ => .nil⟩, k15⟩
  have D__law_stream : FD l.prog w K mg base 1 f16 2 [] g__law_stream := ⟨⟨_, _, [], [], def_okA l16 c16 sc__law_stream rfl (fun cdv A outer s H E hr => der__law_stream T hr) rd__law_stream, .all (al2 fun _ _ => rfl), .nil, fun _ => .nil⟩, k16⟩
  have D__law_number : FD l.prog w K mg base 1 f17 1 [] g__law_number := ⟨⟨_, _, [], [], def_okA l17 c17 sc__law_number rfl (fun cdv A outer s H E hr => der__law_number T hr) rd__law_number, .all (al1 fun _ => rfl), .nil, fun _ => .nil⟩, k17⟩
  have D__law_mode : FD l.prog w K mg base 2 f18 4 [] g__law_mode := ⟨⟨_, _, [], [], def_okA l18 c18 sc__law_mode rfl (fun cdv A outer s H E hr => der__law_mode T D__law_stream D__law_number hr) rd__law_mode, .all (al4 fun _ _ _ _ => rfl), .nil, fun _ => .nil⟩, k18⟩
  have D__law_copied : FD l.prog w K mg base 1 f19 1 [] g__law_copied := ⟨⟨_, _, [], [], def_okA l19 c19 sc__law_copied rfl (fun cdv A outer s H E hr => der__law_copied T hr) rd__law_copied, .all (al1 fun _ => rfl), .nil, fun _ => .nil⟩, k19⟩
  have D__law_spoil : FS l.prog w K mg base 1 f20 spSp := ⟨⟨_, _, ok_spoil l20 c20, .all (al1 fun _ => rfl)⟩, k20⟩
  have D__law_same : FD l.prog w K mg base 1 f21 2 [] (g__law_same C_Mode) := ⟨⟨_, _, [], [], def_okA l21 c21 sc__law_same rfl (fun cdv A outer s H E hr => der__law_same T hr) (rd__law_same T.kf_ThK), .all (al2 fun _ _ => rfl), .nil, fun _ => .nil⟩, k21⟩
  have M_Thing_is_closed : FN l.prog w K mg base 1 f13 1 (g_Thing_is_closed C_Mode C_Thing) := ⟨⟨_, _, def_okA l13 c13 sc_Thing_is_closed rfl (fun cdv A outer s H E hr => der_Thing_is_closed T hr) (rd_Thing_is_closed T.kf_ThK), .all (al1 fun _ => rfl)⟩, k13⟩
  have M_Thing_is_plain : FN l.prog w K mg base 1 f14 1 (g_Thing_is_plain C_Mode C_Thing) := ⟨⟨_, _, def_okA l14 c14 sc_Thing_is_plain rfl (fun cdv A outer s H E hr => der_Thing_is_plain T hr) (rd_Thing_is_plain T.kf_ThK), .all (al1 fun _ => rfl)⟩, k14⟩
  have M_Thing_modes : FN l.prog w K mg base 1 f12 1 (g_Thing_modes C_Thing) := ⟨⟨_, _, def_okA l12 c12 sc_Thing_modes rfl (fun cdv A outer s H E hr => der_Thing_modes T hr) (rd_Thing_modes T.kf_ThK), .all (al1 fun _ => rfl)⟩, k12⟩
  have M_Thing_pushes : FN l.prog w K mg base 1 f11 1 (g_Thing_pushes C_Thing) := ⟨⟨_, _, def_okA l11 c11 sc_Thing_pushes rfl (fun cdv A outer s H E hr => der_Thing_pushes T hr) (rd_Thing_pushes T.kf_ThK), .all (al1 fun _ => rfl)⟩, k11⟩
  have D__law_right : FD l.prog w K mg base 2 f22 4 [] (g__law_right C_Mode C_Thing) := ⟨⟨_, _, [], [], def_okA l22 c22 sc__law_right rfl (fun cdv A outer s H E hr => der__law_right T D__law_same M_Thing_is_closed M_Thing_is_plain M_Thing_modes M_Thing_pushes hr) (rd__law_right T.kf_ThK), .all (al4 fun _ _ _ _ => rfl), .nil, fun _ => .nil⟩, k22⟩
  have O_Thing_modes : FS l.prog w K mg base 1 f12 (spO1 K 1 (g1_Thing_modes C_Thing)) := ⟨⟨_, _, def_ok1 l12 c12 sc_Thing_modes rfl (fun cdv A outer s H E hr => der1_Thing_modes T hr) (rd1_Thing_modes T.kf_ThK), .all (al1 fun _ => rfl)⟩, k12⟩
  have O_Thing_pushes : FS l.prog w K mg base 1 f11 (spO1 K 1 (g1_Thing_pushes C_Thing)) := ⟨⟨_, _, def_ok1 l11 c11 sc_Thing_pushes rfl (fun cdv A outer s H E hr => der1_Thing_pushes T hr) (rd1_Thing_pushes T.kf_ThK), .all (al1 fun _ => rfl)⟩, k11⟩
  have D_own_list : FD l.prog w K mg base 1 f2 1 [] g_own_list := ⟨⟨_, _, [], [], def_okA l2 c2 sc_own_list rfl (fun cdv A outer s H E hr => der_own_list T hr) rd_own_list, .all (al1 fun _ => rfl), .nil, fun _ => .nil⟩, k2⟩
  have D_own : FD l.prog w K mg base 2 f1 1 [] g_own := ⟨⟨_, _, [], [], def_okA l1 c1 sc_own rfl (fun cdv A outer s H E hr => der_own T D_own_list hr) rd_own, .all (al1 fun _ => rfl), .nil, fun _ => .nil⟩, k1⟩
  have I_Mode : FI l.prog w K mg base 3 C_Mode 7 [] g_Mode_init := ⟨⟨f7, _, _, [], [], def_okI (C := C_Mode) l7 c7 sc_Mode_init rfl (fun cdv A outer s H E hr => der_Mode_init T D_own hr) (rd_Mode_init T.kf_ThK), .all (al7 fun _ _ _ _ _ _ _ => rfl), .nil, fun _ => .nil, ⟨q40, a7, n7, q41⟩⟩⟩
  have D_is_whole : FD l.prog w K mg base 1 f0 1 [] g_is_whole := ⟨⟨_, _, [], [], def_okA l0 c0 sc_is_whole rfl (fun cdv A outer s H E hr => der_is_whole T hr) rd_is_whole, .all (al1 fun _ => rfl), .nil, fun _ => .nil⟩, k0⟩
  have D_are_wholes : FD l.prog w K mg base 2 f3 2 [] g_are_wholes := ⟨⟨_, _, [], [], def_okA l3 c3 sc_are_wholes rfl (fun cdv A outer s H E hr => der_are_wholes T D_is_whole hr) rd_are_wholes, .all (al2 fun _ _ => rfl), .nil, fun _ => .nil⟩, k3⟩
  have D_is_row : FD l.prog w K mg base 2 f4 2 [] g_is_row := ⟨⟨_, _, [], [], def_okA l4 c4 sc_is_row rfl (fun cdv A outer s H E hr => der_is_row T D_is_whole hr) rd_is_row, .all (al2 fun _ _ => rfl), .nil, fun _ => .nil⟩, k4⟩
  have D_is_room : FD l.prog w K mg base 3 f5 2 [] g_is_room := ⟨⟨_, _, [], [], def_okA l5 c5 sc_is_room rfl (fun cdv A outer s H E hr => der_is_room T D_is_row hr) rd_is_room, .all (al2 fun _ _ => rfl), .nil, fun _ => .nil⟩, k5⟩
  have D_is_table : FD l.prog w K mg base 3 f6 3 [] g_is_table := ⟨⟨_, _, [], [], def_okA l6 c6 sc_is_table rfl (fun cdv A outer s H E hr => der_is_table T D_are_wholes hr) rd_is_table, .all (al3 fun _ _ _ => rfl), .nil, fun _ => .nil⟩, k6⟩
  have D_is_mode : FD l.prog w K mg base 4 f8 3 [] (g_is_mode C_Mode) := ⟨⟨_, _, [], [], def_okA l8 c8 sc_is_mode rfl (fun cdv A outer s H E hr => der_is_mode T D_is_whole D_are_wholes D_is_room D_is_table hr) (rd_is_mode T.kf_ThK), .all (al3 fun _ _ _ => rfl), .nil, fun _ => .nil⟩, k8⟩
  have D_is_push : FD l.prog w K mg base 2 f9 1 [] g_is_push := ⟨⟨_, _, [], [], def_okA l9 c9 sc_is_push rfl (fun cdv A outer s H E hr => der_is_push T D_is_whole hr) rd_is_push, .all (al1 fun _ => rfl), .nil, fun _ => .nil⟩, k9⟩
  have I_Thing : FI l.prog w K mg base 5 C_Thing 4 [] (g_Thing_init C_Mode) := ⟨⟨f10, _, _, [], [], def_okI (C := C_Thing) l10 c10 sc_Thing_init rfl (fun cdv A outer s H E hr => der_Thing_init T D_is_whole D_is_mode D_is_push hr) (rd_Thing_init T.kf_ThK), .all (al4 fun _ _ _ _ => rfl), .nil, fun _ => .nil, ⟨q42, a10, n10, q43⟩⟩⟩
  exact def_okJ l23 c23 sc_law rfl (fun cdv A outer s H E hr => der_law T D__law_cell_at D__law_stream D__law_number D__law_mode D__law_copied D__law_spoil D__law_right M_Thing_modes M_Thing_pushes O_Thing_modes O_Thing_pushes I_Mode I_Thing hr) nm_law (rd_law T.kf_ThK)
end K11
open PySem PySem.W PyProof.Rows in
set_option maxRecDepth 100000 in
set_option maxHeartbeats 0 in
theorem PySem.Challenge.cw_steadyhand_k11_a_thing_told_holds : PySem.Challenge.rw_steadyhand_k11_a_thing_told.Holds := by
  w_on; o_law; k_headL; (case hw => w_witness2)
  k_fill
  refine Dl.law_end (l := PySem.Challenge.rw_steadyhand_k11_a_thing_told) (n := 63) (k := 7) (x := "_law_script") rfl (by decide) rfl ⟨rfl, by decide, by decide⟩ (fun w h Y => PySem.W.kIn_of Y) ?F
  case F =>
    intro w mg fa h KX G hmg
    refine' K11.all_mk KX G hmg ?aC_Mode ?aC_Thing ?a0 ?l0 ?c0 ?k0 ?a1 ?l1 ?c1 ?k1 ?a2 ?l2 ?c2 ?k2 ?a3 ?l3 ?c3 ?k3 ?a4 ?l4 ?c4 ?k4 ?a5 ?l5 ?c5 ?k5 ?a6 ?l6 ?c6 ?k6 ?a7 ?l7 ?c7 ?k7 ?n7 ?a8 ?l8 ?c8 ?k8 ?a9 ?l9 ?c9 ?k9 ?a10 ?l10 ?c10 ?k10 ?n10 ?a11 ?l11 ?c11 ?k11 ?n11 ?a12 ?l12 ?c12 ?k12 ?n12 ?a13 ?l13 ?c13 ?k13 ?n13 ?a14 ?l14 ?c14 ?k14 ?n14 ?a15 ?l15 ?c15 ?k15 ?a16 ?l16 ?c16 ?k16 ?a17 ?l17 ?c17 ?k17 ?a18 ?l18 ?c18 ?k18 ?a19 ?l19 ?c19 ?k19 ?a20 ?l20 ?c20 ?k20 ?a21 ?l21 ?c21 ?k21 ?a22 ?l22 ?c22 ?k22 ?a23 ?l23 ?c23 ?k23 ?z0 ?z1 ?z2 ?z3 ?z4 ?z5 ?z6 ?z7 ?z8 ?g_MOST_MODES ?g_MOST_NUMBERS ?g_MOST_PUSHES ?q0 ?q1 ?q2 ?q3 ?q4 ?q5 ?q6 ?q7 ?q8 ?q9 ?q10 ?q11 ?q12 ?q13 ?q14 ?q15 ?q16 ?q17 ?q18 ?q19 ?q20 ?q21 ?q22 ?q23 ?q24 ?q25 ?q26 ?q27 ?q28 ?q29 ?q30 ?q31 ?q32 ?q33 ?q34 ?q35 ?q36 ?q37 ?q38 ?q39 ?q40 ?q41 ?q42 ?q43
    (case aC_Mode => k_is)
    (case aC_Thing => k_is)
    (case a0 => k_is)
    (case l0 => k_is)
    (case c0 => k_is)
    (case k0 => k_is)
    (case a1 => k_is)
    (case l1 => k_is)
    (case c1 => k_is)
    (case k1 => k_is)
    (case a2 => k_is)
    (case l2 => k_is)
    (case c2 => k_is)
    (case k2 => k_is)
    (case a3 => k_is)
    (case l3 => k_is)
    (case c3 => k_is)
    (case k3 => k_is)
    (case a4 => k_is)
    (case l4 => k_is)
    (case c4 => k_is)
    (case k4 => k_is)
    (case a5 => k_is)
    (case l5 => k_is)
    (case c5 => k_is)
    (case k5 => k_is)
    (case a6 => k_is)
    (case l6 => k_is)
    (case c6 => k_is)
    (case k6 => k_is)
    (case a7 => k_is)
    (case l7 => k_is)
    (case c7 => k_is)
    (case k7 => k_is)
    (case n7 => k_is)
    (case a8 => k_is)
    (case l8 => k_is)
    (case c8 => k_is)
    (case k8 => k_is)
    (case a9 => k_is)
    (case l9 => k_is)
    (case c9 => k_is)
    (case k9 => k_is)
    (case a10 => k_is)
    (case l10 => k_is)
    (case c10 => k_is)
    (case k10 => k_is)
    (case n10 => k_is)
    (case a11 => k_is)
    (case l11 => k_is)
    (case c11 => k_is)
    (case k11 => k_is)
    (case n11 => k_is)
    (case a12 => k_is)
    (case l12 => k_is)
    (case c12 => k_is)
    (case k12 => k_is)
    (case n12 => k_is)
    (case a13 => k_is)
    (case l13 => k_is)
    (case c13 => k_is)
    (case k13 => k_is)
    (case n13 => k_is)
    (case a14 => k_is)
    (case l14 => k_is)
    (case c14 => k_is)
    (case k14 => k_is)
    (case n14 => k_is)
    (case a15 => k_is)
    (case l15 => k_is)
    (case c15 => k_is)
    (case k15 => k_is)
    (case a16 => k_is)
    (case l16 => k_is)
    (case c16 => k_is)
    (case k16 => k_is)
    (case a17 => k_is)
    (case l17 => k_is)
    (case c17 => k_is)
    (case k17 => k_is)
    (case a18 => k_is)
    (case l18 => k_is)
    (case c18 => k_is)
    (case k18 => k_is)
    (case a19 => k_is)
    (case l19 => k_is)
    (case c19 => k_is)
    (case k19 => k_is)
    (case a20 => k_is)
    (case l20 => k_is)
    (case c20 => k_is)
    (case k20 => k_is)
    (case a21 => k_is)
    (case l21 => k_is)
    (case c21 => k_is)
    (case k21 => k_is)
    (case a22 => k_is)
    (case l22 => k_is)
    (case c22 => k_is)
    (case k22 => k_is)
    (case a23 => k_is)
    (case l23 => k_is)
    (case c23 => k_is)
    (case k23 => k_is)
    (case z0 => k_is)
    (case z1 => k_is)
    (case z2 => k_is)
    (case z3 => k_is)
    (case z4 => k_is)
    (case z5 => k_is)
    (case z6 => k_is)
    (case z7 => k_is)
    (case z8 => k_is)
    (case g_MOST_MODES => k_is)
    (case g_MOST_NUMBERS => k_is)
    (case g_MOST_PUSHES => k_is)
    (case q0 => k_is)
    (case q1 => k_is)
    (case q2 => k_is)
    (case q3 => k_is)
    (case q4 => k_is)
    (case q5 => k_is)
    (case q6 => k_is)
    (case q7 => k_is)
    (case q8 => k_is)
    (case q9 => k_is)
    (case q10 => k_is)
    (case q11 => k_is)
    (case q12 => k_is)
    (case q13 => k_is)
    (case q14 => k_is)
    (case q15 => k_is)
    (case q16 => k_is)
    (case q17 => k_is)
    (case q18 => k_is)
    (case q19 => k_is)
    (case q20 => k_is)
    (case q21 => k_is)
    (case q22 => k_is)
    (case q23 => k_is)
    (case q24 => k_is)
    (case q25 => first | rfl | k_is)
    (case q26 => first | rfl | k_is)
    (case q27 => first | rfl | decide)
    (case q28 => first | rfl | k_is)
    (case q29 => first | rfl | decide)
    (case q30 => first | rfl | k_is)
    (case q31 => first | rfl | decide)
    (case q32 => first | rfl | k_is)
    (case q33 => first | rfl | decide)
    (case q34 => first | rfl | k_is)
    (case q35 => first | rfl | decide)
    (case q36 => first | rfl | k_is)
    (case q37 => first | rfl | decide)
    (case q38 => first | rfl | k_is)
    (case q39 => first | rfl | decide)
    (case q40 => k_is)
    (case q41 => k_is)
    (case q42 => k_is)
    (case q43 => k_is)
#print axioms PySem.Challenge.cw_steadyhand_k11_a_thing_told_holds
