import PyProof.Rows.All
import HandS.ForMost
import HandS.IsInst
import HandS.Style
import HandS.Deep
import HandS.Walk
import HandS.Zip
import HandS.TupMul
import HandS.TupLe
import HandS.Flow
import HandS.TupAny
import KE.GoesEnum
import KE.GoesNew
import HandS.TupSets
import HandS.Small
import HandS.Dict
import HandS.Sort
import PyProof.SumWalkG
import HandS.ForDict
import HandS.RaiseMore
import PySem.Challenge.RW_cellgrounds_k47_whole_sums_of_rectangles
set_option Elab.async false
set_option linter.all false
set_option maxRecDepth 100000
set_option maxHeartbeats 4000000
/-! PD1: data trees over the hand layer: readings, the state of slots, what holds behind an evaluation. -/
namespace PD
set_option autoImplicit false
open PySem PySem.Spec L2
open PyProof.Rows hiding St

abbrev D := PyData
abbrev Rg := Addr → Prop

/-- a dict's key as data -/
def kD : Key → D
  | .inl i => .int i
  | .inr x => .str x

mutual
/-- the value v is the datum d, read over H; lists and dicts in it stand within F -/
inductive Dt (K : PySem.W.Frag) (F : Rg) (H : Hp) : D → V → Prop
  | non : Dt K F H .none .non
  | bl (b : Bool) : Dt K F H (.bool b) (.bl b)
  | int (i : Int) : Dt K F H (.int i) (.int i)
  | str (x : Str) : Dt K F H (.str x) (.str x)
  | lst {a : Addr} {xs : List V} {ds : List D} : F a → Rd H a (.lst xs) → Dts K F H ds xs → Dt K F H (.list ds) (.ref a)
  | tup {a : Addr} {xs : List V} {ds : List D} : SqT K H a xs → Dts K F H ds xs → Dt K F H (.tuple ds) (.ref a)
  | dik {a : Addr} {ks : List (Key × V)} {kvs : List (D × D)} : F a → Rd H a (.dK ks) → Dkv K F H kvs ks → Dt K F H (.dict kvs) (.ref a)
inductive Dts (K : PySem.W.Frag) (F : Rg) (H : Hp) : List D → List V → Prop
  | nil : Dts K F H [] []
  | cons {d : D} {v : V} {ds : List D} {vs : List V} : Dt K F H d v → Dts K F H ds vs → Dts K F H (d :: ds) (v :: vs)
inductive Dkv (K : PySem.W.Frag) (F : Rg) (H : Hp) : List (D × D) → List (Key × V) → Prop
  | nil : Dkv K F H [] []
  | cons {k : Key} {d : D} {v : V} {kvs : List (D × D)} {ks : List (Key × V)} : Dt K F H d v → Dkv K F H kvs ks → Dkv K F H ((kD k, d) :: kvs) ((k, v) :: ks)
end

section
variable {K : PySem.W.Frag} {F F' : Rg} {H H' : Hp}

/-- what a reading leans on stays: tuples, and what stands within F -/
structure Keeps (F F' : Rg) (H H' : Hp) : Prop where
  inn : ∀ a, F a → F' a
  tup : ∀ b xs, H b = some (.tup xs) → H' b = some (.tup xs)
  fzt : ∀ b o u, H b = some (.frz o u) → H' b = some (.frz o u)
  obj : ∀ b u, F b → Rd H b u → Rd H' b u

theorem Keeps.sqt (k : Keeps F F' H H') {a : Addr} {xs : List V} (h : SqT K H a xs) : SqT K H' a xs := by
  rcases h with (h | ⟨o, h⟩) | h
  · exact .inl (.inl (k.tup _ _ h))
  · exact .inl (.inr ⟨o, k.fzt _ _ _ h⟩)
  · exact .inr h

mutual
theorem Dt.keeps (k : Keeps F F' H H') : ∀ {d : D} {v : V}, Dt K F H d v → Dt K F' H' d v
  | _, _, .non => .non
  | _, _, .bl b => .bl b
  | _, _, .int i => .int i
  | _, _, .str x => .str x
  | _, _, .lst f r ds => .lst (k.inn _ f) (k.obj _ _ f r) (Dts.keeps k ds)
  | _, _, .tup r ds => .tup (k.sqt r) (Dts.keeps k ds)
  | _, _, .dik f r ds => .dik (k.inn _ f) (k.obj _ _ f r) (Dkv.keeps k ds)
theorem Dts.keeps (k : Keeps F F' H H') : ∀ {ds : List D} {vs : List V}, Dts K F H ds vs → Dts K F' H' ds vs
  | _, _, .nil => .nil
  | _, _, .cons h t => .cons (Dt.keeps k h) (Dts.keeps k t)
theorem Dkv.keeps (k : Keeps F F' H H') : ∀ {ds : List (D × D)} {vs : List (Key × V)}, Dkv K F H ds vs → Dkv K F' H' ds vs
  | _, _, .nil => .nil
  | _, _, .cons h t => .cons (Dt.keeps k h) (Dkv.keeps k t)
end

mutual
/-- no list and no dict in it -/
def imm : D → Bool
  | .none => true
  | .bool _ => true
  | .int _ => true
  | .str _ => true
  | .tuple ds => imms ds
  | .list _ => false
  | .dict _ => false
def imms : List D → Bool
  | [] => true
  | d :: ds => imm d && imms ds
end
/-- no list and no dict below its top -/
def inner : D → Bool
  | .list ds => imms ds
  | .dict kvs => imms (kvs.map (·.2))
  | d => imm d

theorem imms_all : ∀ ds : List D, imms ds = ds.all imm
  | [] => rfl
  | d :: ds => by rw [imms, List.all_cons, imms_all ds]

/-- what a reading of an immutable datum leans on -/
structure Keeps0 (H H' : Hp) : Prop where
  tup : ∀ b xs, H b = some (.tup xs) → H' b = some (.tup xs)
  fzt : ∀ b o xs, H b = some (.frz o (.tup xs)) → H' b = some (.frz o (.tup xs))
theorem Keeps0.refl {H : Hp} : Keeps0 H H := ⟨fun _ _ h => h, fun _ _ _ h => h⟩
theorem Keeps0.sqt (k : Keeps0 H H') {a : Addr} {xs : List V} (h : SqT K H a xs) : SqT K H' a xs := by
  rcases h with (h | ⟨o, h⟩) | h
  · exact .inl (.inl (k.tup _ _ h))
  · exact .inl (.inr ⟨o, k.fzt _ _ _ h⟩)
  · exact .inr h
mutual
theorem Dt.imm0 (k : Keeps0 H H') : ∀ {d : D} {v : V}, Dt K F H d v → imm d = true → Dt K F' H' d v
  | _, _, .non, _ => .non
  | _, _, .bl b, _ => .bl b
  | _, _, .int i, _ => .int i
  | _, _, .str x, _ => .str x
  | _, _, .tup r ds, e => .tup (k.sqt r) (Dts.imm0 k ds (by simpa [imm] using e))
  | _, _, .lst _ _ _, e => by simp [imm] at e
  | _, _, .dik _ _ _, e => by simp [imm] at e
theorem Dts.imm0 (k : Keeps0 H H') : ∀ {ds : List D} {vs : List V}, Dts K F H ds vs → imms ds = true → Dts K F' H' ds vs
  | _, _, .nil, _ => .nil
  | _, _, .cons h t, e => .cons (Dt.imm0 k h (by simp [imms] at e; exact e.1)) (Dts.imm0 k t (by simp [imms] at e; exact e.2))
end
theorem Dkv.imm0 (k : Keeps0 H H') : ∀ {ds : List (D × D)} {vs : List (Key × V)}, Dkv K F H ds vs → imms (ds.map (·.2)) = true → Dkv K F' H' ds vs
  | _, _, .nil, _ => .nil
  | _, _, .cons h t, e => .cons (Dt.imm0 k h (by simp [imms] at e; exact e.1)) (Dkv.imm0 k t (by simp [imms] at e ⊢; exact e.2))

theorem Dts.length : ∀ {ds : List D} {vs : List V}, Dts K F H ds vs → ds.length = vs.length
  | _, _, .nil => rfl
  | _, _, .cons _ t => by simp [Dts.length t]
theorem Dts.get : ∀ {ds : List D} {vs : List V} {i : Nat} {d : D}, Dts K F H ds vs → ds[i]? = some d → ∃ v, vs[i]? = some v ∧ Dt K F H d v
  | _, _, _, _, .nil, e => by simp at e
  | _, _, 0, _, .cons h _, e => by simp at e; subst e; exact ⟨_, rfl, h⟩
  | _, _, i + 1, d, .cons _ t, e => by
    obtain ⟨v, h1, h2⟩ := Dts.get (i := i) (d := d) t (by simpa using e)
    exact ⟨v, by simpa using h1, h2⟩
theorem Dts.getV : ∀ {ds : List D} {vs : List V} {i : Nat} {v : V}, Dts K F H ds vs → vs[i]? = some v → ∃ d, ds[i]? = some d ∧ Dt K F H d v
  | _, _, _, _, .nil, e => by simp at e
  | _, _, 0, _, .cons h _, e => by simp at e; subst e; exact ⟨_, rfl, h⟩
  | _, _, i + 1, d, .cons _ t, e => by
    obtain ⟨v, h1, h2⟩ := Dts.getV (i := i) (v := d) t (by simpa using e)
    exact ⟨v, by simpa using h1, h2⟩
theorem Dts.append : ∀ {ds es : List D} {vs us : List V}, Dts K F H ds vs → Dts K F H es us → Dts K F H (ds ++ es) (vs ++ us)
  | _, _, _, _, .nil, s => s
  | _, _, _, _, .cons h t, s => .cons h (Dts.append t s)
theorem Dts.take : ∀ {ds : List D} {vs : List V} (n : Nat), Dts K F H ds vs → Dts K F H (ds.take n) (vs.take n)
  | _, _, 0, _ => .nil
  | _, _, _ + 1, .nil => .nil
  | _, _, n + 1, .cons h t => .cons h (Dts.take n t)
theorem Dts.drop : ∀ {ds : List D} {vs : List V} (n : Nat), Dts K F H ds vs → Dts K F H (ds.drop n) (vs.drop n)
  | _, _, 0, h => h
  | _, _, _ + 1, .nil => .nil
  | _, _, n + 1, .cons _ t => Dts.drop n t
theorem Dts.set {d : D} {v : V} (h : Dt K F H d v) : ∀ {ds : List D} {vs : List V} (i : Nat), Dts K F H ds vs → Dts K F H (ds.set i d) (vs.set i v)
  | _, _, _, .nil => .nil
  | _, _, 0, .cons _ t => .cons h t
  | _, _, i + 1, .cons q t => .cons q (Dts.set h i t)
theorem Dts.reverse : ∀ {ds : List D} {vs : List V}, Dts K F H ds vs → Dts K F H ds.reverse vs.reverse
  | _, _, .nil => .nil
  | _, _, .cons h t => by
    rw [List.reverse_cons, List.reverse_cons]
    exact (Dts.reverse t).append (.cons h .nil)
theorem Dts.dropLast : ∀ {ds : List D} {vs : List V}, Dts K F H ds vs → Dts K F H ds.dropLast vs.dropLast := fun {ds vs} h => by
  rw [List.dropLast_eq_take, List.dropLast_eq_take, h.length]
  exact h.take _
theorem Dts.rep {ds : List D} {vs : List V} (h : Dts K F H ds vs) : ∀ k : Nat, Dts K F H (List.replicate k ds).flatten (List.replicate k vs).flatten
  | 0 => .nil
  | k + 1 => by
    rw [List.replicate_succ, List.replicate_succ, List.flatten_cons, List.flatten_cons]
    exact h.append (Dts.rep h k)
theorem Dts.nil_iff {ds : List D} {vs : List V} (h : Dts K F H ds vs) : ds = [] ↔ vs = [] := by
  cases h <;> simp
theorem Dts.ints : ∀ {ns : List Int} {vs : List V}, Dts K F H (ns.map PyData.int) vs → vs = ns.map V.int
  | [], _, .nil => rfl
  | n :: ns, _, .cons h t => by
    cases h
    rw [Dts.ints t]
    rfl
theorem Dts.bools : ∀ {ns : List Bool} {vs : List V}, Dts K F H (ns.map PyData.bool) vs → vs = ns.map V.bl
  | [], _, .nil => rfl
  | n :: ns, _, .cons h t => by
    cases h
    rw [Dts.bools t]
    rfl


mutual
theorem Dt.dp : ∀ {d : D} {v : V}, Dt K F H d v → SeqAt.shaped d = true → Dp K H v d := fun {d v} h s => by
  exact Dt.dp0 h (by
    have : (d.canLay0 && decide (d.depth ≤ 64)) = true := s
    rw [Bool.and_eq_true] at this
    exact this.1)
theorem Dt.dp0 : ∀ {d : D} {v : V}, Dt K F H d v → d.canLay0 = true → Dp K H v d
  | _, _, .non, _ => .non
  | _, _, .bl b, _ => .bl b
  | _, _, .int i, _ => .int i
  | _, _, .str x, _ => .str x
  | _, _, .lst _ r ds, e => .lst (.inl r) (Dts.dp0 ds (by simpa [PyData.canLay0] using e))
  | _, _, .tup r ds, e => .tup r (Dts.dp0 ds (by simpa [PyData.canLay0] using e))
  | _, _, .dik _ _ _, e => by simp [PyData.canLay0] at e
theorem Dts.dp0 : ∀ {ds : List D} {vs : List V}, Dts K F H ds vs → PyData.canLayAll0 ds = true → DpAll K H vs ds
  | _, _, .nil, _ => .nil
  | _, _, .cons h t, e => .cons (Dt.dp0 h (by simp [PyData.canLayAll0] at e; exact e.1)) (Dts.dp0 t (by simp [PyData.canLayAll0] at e; exact e.2))
end
end
end PD
set_option Elab.async false
set_option linter.all false
set_option maxRecDepth 100000
set_option maxHeartbeats 4000000
/-! PD2: slots, results, what holds behind an evaluation; the judgements over data. -/
namespace PD
set_option autoImplicit false
open PySem PySem.Spec L2
open PyProof.Rows hiding St

/-- what is fixed through a def's run: the written part, the heap at its entry, what was readable there, the address of the list that is handed in to be changed -/
structure G where
  K : PySem.W.Frag
  H0 : Hp
  F0 : Rg
  cup : Option Addr

/-- a slot: a value that is never changed any more, or a list or dict of our own -/
inductive Sl where
  | sh (d : D) | own (d : D)
structure En where
  cup : Bool
  sl : List (Option Sl)

/-- a list or dict that may be changed stands at a -/
def Mo (K : PySem.W.Frag) (F : Rg) (H : Hp) (d : D) (a : Addr) : Prop :=
  (∃ ds xs, d = .list ds ∧ H a = some (.lst xs) ∧ Dts K F H ds xs) ∨ (∃ kvs ks, d = .dict kvs ∧ H a = some (.dK ks) ∧ Dkv K F H kvs ks)

def OwnAt (ρ : En) (σ : St) (b : Addr) : Prop := ∃ (i : Nat) (d : D), ρ.sl[i]? = some (some (.own d)) ∧ σ[i]? = some (some (.ref b))

structure Rel (g : G) (F : Rg) (ρ : En) (σ : St) (H : Hp) : Prop where
  len : ρ.sl.length = σ.length
  sh : ∀ (i : Nat) (d : D), ρ.sl[i]? = some (some (.sh d)) → ∃ v, σ[i]? = some (some v) ∧ Dt g.K F H d v
  own : ∀ (i : Nat) (d : D), ρ.sl[i]? = some (some (.own d)) → ∃ a, σ[i]? = some (some (.ref a)) ∧ Mo g.K F H d a ∧ ¬ F a ∧ (g.H0 a = none ∨ g.cup = some a)
  dist : ∀ (i j : Nat) (d e : D) (a : Addr), ρ.sl[i]? = some (some (.own d)) → ρ.sl[j]? = some (some (.own e)) → σ[i]? = some (some (.ref a)) → σ[j]? = some (some (.ref a)) → i = j
  cupT : ρ.cup = true → ∃ c d, g.cup = some c ∧ σ[0]? = some (some (.ref c)) ∧ ρ.sl[0]? = some (some (.own d))
  cupF : ρ.cup = false → g.cup = none
  F0 : ∀ a, g.F0 a → F a
  Fn : ∀ a, F a → g.F0 a ∨ g.H0 a = none
  Fs : ∀ a, F a → H a ≠ none
  base : ∀ a o, g.H0 a = some o → g.cup ≠ some a → H a = some o

/-- what stays behind -/
structure Post (g : G) (F : Rg) (ρ : En) (σ : St) (H : Hp) (F' : Rg) (ρ' : En) (σ' : St) (H' : Hp) : Prop where
  rel : Rel g F' ρ' σ' H'
  mono : ∀ a, F a → F' a
  kept : ∀ b o, H b = some o → ¬ OwnAt ρ σ b → H' b = some o
  there : ∀ b, H b ≠ none → H' b ≠ none
  newF : ∀ b, F' b → F b ∨ H b = none ∨ OwnAt ρ σ b
  newO : ∀ b, OwnAt ρ' σ' b → OwnAt ρ σ b ∨ H b = none
/-- .. behind an expression: no slot is stored -/
structure TPo (g : G) (F : Rg) (ρ : En) (σ : St) (H : Hp) (F' : Rg) (ρ' : En) (H' : Hp) : Prop where
  post : Post g F ρ σ H F' ρ' σ H'
  pres : ∀ (i : Nat) (s : Sl), ρ.sl[i]? = some (some s) → ∃ s', ρ'.sl[i]? = some (some s')
  shr : ∀ b, OwnAt ρ' σ b → OwnAt ρ σ b

section
variable {g : G} {F F1 F2 F' : Rg} {ρ ρ1 ρ2 ρ' : En} {σ σ1 σ2 σ' : St} {H H1 H2 H' : Hp}

theorem Mo.mut {K : PySem.W.Frag} {d : D} {a : Addr} (h : Mo K F H d a) : ∃ o, H a = some o ∧ Mut (some o) ∧ (∀ xs, o ≠ .tup xs) ∧ ∀ ob u, o ≠ .frz ob u := by
  rcases h with ⟨_, _, _, e, _⟩ | ⟨_, _, _, e, _⟩
  · exact ⟨_, e, trivial, (fun _ z => nomatch z), fun _ _ z => nomatch z⟩
  · exact ⟨_, e, trivial, (fun _ z => nomatch z), fun _ _ z => nomatch z⟩
theorem Rel.ownObj (r : Rel g F ρ σ H) {b : Addr} (h : OwnAt ρ σ b) : ∃ d, Mo g.K F H d b ∧ ¬ F b ∧ (g.H0 b = none ∨ g.cup = some b) := by
  obtain ⟨i, d, e1, e2⟩ := h
  obtain ⟨a, e3, o, n, f⟩ := r.own i d e1
  rw [e2] at e3
  cases e3
  exact ⟨d, o, n, f⟩
theorem Rel.notOwnF (r : Rel g F ρ σ H) {b : Addr} (h : F b) : ¬ OwnAt ρ σ b := fun o => by
  obtain ⟨_, _, n, _⟩ := r.ownObj o
  exact n h
theorem Rel.notOwnT (r : Rel g F ρ σ H) {b : Addr} {xs : List V} (h : H b = some (.tup xs)) : ¬ OwnAt ρ σ b := fun o => by
  obtain ⟨_, ob, _⟩ := r.ownObj o
  obtain ⟨u, e, _, n, _⟩ := ob.mut
  rw [h] at e
  cases e
  exact n _ rfl
theorem Rel.notOwnZ (r : Rel g F ρ σ H) {b : Addr} {o : Obj} {u : HO} (h : H b = some (.frz o u)) : ¬ OwnAt ρ σ b := fun w => by
  obtain ⟨_, ob, _⟩ := r.ownObj w
  obtain ⟨u, e, _, _, n⟩ := ob.mut
  rw [h] at e
  cases e
  exact n _ _ rfl
theorem Rel.notOwnN (r : Rel g F ρ σ H) {b : Addr} (h : H b = none) : ¬ OwnAt ρ σ b := fun w => by
  obtain ⟨_, ob, _⟩ := r.ownObj w
  obtain ⟨u, e, _⟩ := ob.mut
  rw [h] at e
  cases e

/-- tuples, and what is readable, stay over what keeps all but our own -/
theorem keeps_of (r : Rel g F ρ σ H) (mono : ∀ a, F a → F' a) (kept : ∀ b o, H b = some o → ¬ OwnAt ρ σ b → H' b = some o) : Keeps F F' H H' where
  inn := mono
  tup := fun b xs e => kept b _ e (r.notOwnT e)
  fzt := fun b o xs e => kept b _ e (r.notOwnZ e)
  obj := fun b u f e => by
    rcases e with e | ⟨o, e⟩
    · exact .inl (kept b _ e (r.notOwnF f))
    · exact .inr ⟨o, kept b _ e (r.notOwnF f)⟩
theorem Post.keeps (r : Rel g F ρ σ H) (p : Post g F ρ σ H F' ρ' σ' H') : Keeps F F' H H' := keeps_of r p.mono p.kept
theorem Keeps.zero (k : Keeps F F' H H') : Keeps0 H H' := ⟨k.tup, fun b o _ e => k.fzt b o _ e⟩

theorem Post.refl (r : Rel g F ρ σ H) : Post g F ρ σ H F ρ σ H := ⟨r, fun _ h => h, fun _ _ h _ => h, fun _ h => h, fun _ h => .inl h, fun _ h => .inl h⟩
theorem Post.trans (r : Rel g F ρ σ H) (p : Post g F ρ σ H F1 ρ1 σ1 H1) (q : Post g F1 ρ1 σ1 H1 F2 ρ2 σ2 H2) : Post g F ρ σ H F2 ρ2 σ2 H2 where
  rel := q.rel
  mono := fun a h => q.mono a (p.mono a h)
  kept := fun b o h n => q.kept b o (p.kept b o h n) fun z => by
    rcases p.newO b z with z | z
    · exact n z
    · rw [h] at z; cases z
  there := fun b h => q.there b (p.there b h)
  newF := fun b h => by
    rcases q.newF b h with z | z | z
    · exact p.newF b z
    · by_cases e : H b = none
      · exact .inr (.inl e)
      · exact absurd z (p.there b e)
    · rcases p.newO b z with z | z
      · exact .inr (.inr z)
      · exact .inr (.inl z)
  newO := fun b h => by
    rcases q.newO b h with z | z
    · exact p.newO b z
    · by_cases e : H b = none
      · exact .inr e
      · exact absurd z (p.there b e)
theorem TPo.refl (r : Rel g F ρ σ H) : TPo g F ρ σ H F ρ H := ⟨Post.refl r, fun _ s h => ⟨s, h⟩, fun _ h => h⟩
theorem TPo.trans (r : Rel g F ρ σ H) (p : TPo g F ρ σ H F1 ρ1 H1) (q : TPo g F1 ρ1 σ H1 F2 ρ2 H2) : TPo g F ρ σ H F2 ρ2 H2 :=
  ⟨p.post.trans r q.post, fun i s h => let ⟨s1, h1⟩ := p.pres i s h; q.pres i s1 h1, fun b h => p.shr b (q.shr b h)⟩
end

/-- an expression's result: a value that is never changed any more; a new list or dict that nobody else has; what stands in a slot of our own -/
inductive W where
  | sh (d : D) | fr (d : D) | vr (i : Nat)
def Sl.d : Sl → D
  | .sh d => d
  | .own d => d
def En.at (ρ : En) (i : Nat) : Option D := match ρ.sl[i]? with
  | some (some s) => some s.d
  | _ => none
def W.get (ρ : En) : W → Option D
  | .sh d => some d
  | .fr d => some d
  | .vr i => ρ.at i
def RW (g : G) (F : Rg) (ρ : En) (σ : St) (H : Hp) (v : V) : W → Prop
  | .sh d => Dt g.K F H d v
  | .fr d => ∃ a, v = .ref a ∧ Mo g.K F H d a ∧ ¬ F a ∧ ¬ OwnAt ρ σ a ∧ g.H0 a = none
  | .vr i => σ[i]? = some (some v) ∧ ∃ s, ρ.sl[i]? = some (some s)
def ownV (ρ : En) (σ : St) (w : W) (a : Addr) : Prop := ∃ (i : Nat) (d : D), w = .vr i ∧ ρ.sl[i]? = some (some (.own d)) ∧ σ[i]? = some (some (.ref a))
theorem ownV.at {ρ : En} {σ : St} {w : W} {a : Addr} (h : ownV ρ σ w a) : OwnAt ρ σ a := by
  obtain ⟨i, d, _, h1, h2⟩ := h
  exact ⟨i, d, h1, h2⟩
def frAt (w : W) (v : V) (a : Addr) : Prop := (∃ d, w = .fr d) ∧ v = .ref a

section
variable {g : G} {F F1 F2 F' : Rg} {ρ ρ1 ρ2 ρ' : En} {σ σ1 σ2 σ' : St} {H H1 H2 H' : Hp} {w : W} {v : V}
theorem Mo.keeps {K : PySem.W.Frag} {d : D} {a : Addr} (k : Keeps F F' H H') (e : ∀ o, H a = some o → H' a = some o) (h : Mo K F H d a) : Mo K F' H' d a := by
  rcases h with ⟨ds, xs, h1, h2, h3⟩ | ⟨ds, xs, h1, h2, h3⟩
  · exact .inl ⟨ds, xs, h1, e _ h2, h3.keeps k⟩
  · exact .inr ⟨ds, xs, h1, e _ h2, h3.keeps k⟩
theorem RW.step (r : Rel g F ρ σ H) (h : RW g F ρ σ H v w) (p : TPo g F ρ σ H F' ρ' H') : RW g F' ρ' σ H' v w := by
  cases w with
  | sh d => exact Dt.keeps (p.post.keeps r) h
  | fr d =>
    obtain ⟨a, e, o, n, no, f⟩ := h
    obtain ⟨u, eu, _⟩ := o.mut
    refine ⟨a, e, o.keeps (p.post.keeps r) (fun o' e' => p.post.kept _ _ e' no), fun z => ?_, fun z => no (p.shr _ z), f⟩
    rcases p.post.newF a z with z | z | z
    · exact n z
    · rw [eu] at z; cases z
    · exact no z
  | vr i =>
    obtain ⟨e, s, q⟩ := h
    exact ⟨e, p.pres i s q⟩
/-- what stands there, read over a wider region -/
theorem RW.dt (r : Rel g F ρ σ H) (h : RW g F ρ σ H v w) {d : D} (e : w.get ρ = some d) {F' : Rg} (m : ∀ a, F a → F' a) (own : ∀ a, v = .ref a → (ownV ρ σ w a ∨ frAt w v a) → F' a) : Dt g.K F' H d v := by
  have k : Keeps F F' H H := ⟨m, fun _ _ h => h, fun _ _ _ h => h, fun _ _ _ h => h⟩
  have ob : ∀ a, v = .ref a → Mo g.K F H d a → F' a → Dt g.K F' H d v := fun a ev o f => by
    subst ev
    rcases o with ⟨ds, xs, rfl, h2, h3⟩ | ⟨ds, xs, rfl, h2, h3⟩
    · exact .lst f (.inl h2) (h3.keeps k)
    · exact .dik f (.inl h2) (h3.keeps k)
  cases w with
  | sh d' => cases e; exact Dt.keeps k h
  | fr d' =>
    cases e
    obtain ⟨a, e, o, _⟩ := h
    exact ob a e o (own a e (.inr ⟨⟨_, rfl⟩, e⟩))
  | vr i =>
    obtain ⟨e1, s, q⟩ := h
    have e' : some s.d = some d := by
      have := e
      simpa only [W.get, En.at, q] using this
    cases e'
    cases s with
    | sh d' =>
      obtain ⟨v', e2, h⟩ := r.sh i d' q
      rw [e1] at e2
      cases e2
      exact Dt.keeps k h
    | own d' =>
      obtain ⟨a, e2, o, _⟩ := r.own i d' q
      rw [e1] at e2
      cases e2
      exact ob a rfl o (own a rfl (.inl ⟨i, _, rfl, q, e1⟩))
/-- read over everything -/
def All : Rg := fun _ => True
theorem RW.dt' (r : Rel g F ρ σ H) (h : RW g F ρ σ H v w) {d : D} (e : w.get ρ = some d) : Dt g.K All H d v := h.dt r e (fun _ _ => trivial) fun _ _ _ => trivial
theorem Dt.imm {K : PySem.W.Frag} {F F' : Rg} {H : Hp} {d : D} {v : V} (h : Dt K F H d v) (e : imm d = true) : Dt K F' H d v := h.imm0 Keeps0.refl e
end

/-! ### the judgements -/
/-- behind an expression -/
structure EPo (g : G) (F : Rg) (ρ : En) (σ : St) (H : Hp) (w : W) (ρ' : En) (v : V) (F' : Rg) (H' : Hp) : Prop where
  t : TPo g F ρ σ H F' ρ' H'
  rw : RW g F' ρ' σ H' v w
  new : ∀ a, frAt w v a → H a = none
abbrev DE := En → Option (W × En)
abbrev DT := En → Option (Bool × En)
abbrev DA := En → Option (List W × En)
def tE (g : G) (f : DE) : TE := fun σ H Q => ∃ F ρ, Rel g F ρ σ H ∧ ∃ w ρ', f ρ = some (w, ρ') ∧ ∀ v H' F', EPo g F ρ σ H w ρ' v F' H' → Q v H'
def tT (g : G) (f : DT) : TT := fun σ H Q => ∃ F ρ, Rel g F ρ σ H ∧ ∃ b ρ', f ρ = some (b, ρ') ∧ ∀ H' F', TPo g F ρ σ H F' ρ' H' → Q b H'
/-- results in a row: each as told, no two of the new ones the same -/
inductive RWs (g : G) (F : Rg) (ρ : En) (σ : St) (H : Hp) : List V → List W → Prop
  | nil : RWs g F ρ σ H [] []
  | cons {v : V} {w : W} {vs : List V} {ws : List W} : RW g F ρ σ H v w → RWs g F ρ σ H vs ws → (∀ a, frAt w v a → ∀ (i : Nat) y u, ws[i]? = some y → vs[i]? = some u → ¬ frAt y u a) → RWs g F ρ σ H (v :: vs) (w :: ws)
structure APo (g : G) (F : Rg) (ρ : En) (σ : St) (H : Hp) (ws : List W) (ρ' : En) (vs : List V) (F' : Rg) (H' : Hp) : Prop where
  t : TPo g F ρ σ H F' ρ' H'
  rw : RWs g F' ρ' σ H' vs ws
  new : ∀ (i : Nat) y u a, ws[i]? = some y → vs[i]? = some u → frAt y u a → H a = none
def tA (g : G) (f : DA) : TA := fun σ H Q => ∃ F ρ, Rel g F ρ σ H ∧ ∃ ws ρ', f ρ = some (ws, ρ') ∧ ∀ vs H' F', APo g F ρ σ H ws ρ' vs F' H' → Q vs H'

def PED (X : Cx) (e : Expr) (f : DE) : Prop := ∀ g : G, g.K = X.K → PE X e (tE g f)
def PTD (X : Cx) (e : Expr) (f : DT) : Prop := ∀ g : G, g.K = X.K → PT X e (tT g f)
def PWD (X : Cx) (e : Expr) (f : DT) : Prop := ∀ g : G, g.K = X.K → PW X e (tT g f)
def PAD (X : Cx) (es : List Expr) (f : DA) : Prop := ∀ g : G, g.K = X.K → PA X es (tA g f)

theorem _root_.L2.PE.wk {X : Cx} {e : Expr} {t t' : TE} (h : PE X e t) (hi : ∀ σ H Q, t' σ H Q → t σ H Q) : PE X e t' := ⟨fun pins s σ H Q I q => h.run pins s σ H Q I (hi σ H Q q)⟩
theorem _root_.L2.PT.wk {X : Cx} {e : Expr} {t t' : TT} (h : PT X e t) (hi : ∀ σ H Q, t' σ H Q → t σ H Q) : PT X e t' := ⟨fun pins s σ H Q I q => h.run pins s σ H Q I (hi σ H Q q)⟩
theorem _root_.L2.PW.wk {X : Cx} {e : Expr} {t t' : TT} (h : PW X e t) (hi : ∀ σ H Q, t' σ H Q → t σ H Q) : PW X e t' := ⟨fun w pins s σ H Q I q => h.run w pins s σ H Q I (hi σ H Q q)⟩
theorem _root_.L2.PA.wk {X : Cx} {es : List Expr} {t t' : TA} (h : PA X es t) (hi : ∀ σ H Q, t' σ H Q → t σ H Q) : PA X es t' := ⟨fun pos pins s σ H Q I q => h.run pos pins s σ H Q I (hi σ H Q q)⟩
theorem _root_.L2.PS.wk {X : Cx} {st : Stmt} {t t' : TS} (h : PS X st t) (hi : ∀ D σ H, t' D σ H → t D σ H) : PS X st t' := ⟨fun pins s σ H D I q => h.run pins s σ H D I (hi D σ H q)⟩
theorem _root_.L2.PSs.wk {X : Cx} {st : List Stmt} {t t' : TS} (h : PSs X st t) (hi : ∀ D σ H, t' D σ H → t D σ H) : PSs X st t' := ⟨fun pins s σ H D I q => h.run pins s σ H D I (hi D σ H q)⟩

section
variable {g : G} {F F1 F2 F' : Rg} {ρ ρ1 ρ2 ρ' : En} {σ σ1 σ2 σ' : St} {H H1 H2 H' : Hp} {w w1 w2 : W} {v v1 v2 : V}
theorem EPo.then (r : Rel g F ρ σ H) (p : TPo g F ρ σ H F1 ρ1 H1) (q : EPo g F1 ρ1 σ H1 w ρ2 v F2 H2) : EPo g F ρ σ H w ρ2 v F2 H2 :=
  ⟨p.trans r q.t, q.rw, fun a h => by
    by_cases e : H a = none
    · exact e
    · exact absurd (q.new a h) (p.post.there a e)⟩
/-- a value that needs no list, the heap as it stands -/
theorem EPo.val (r : Rel g F ρ σ H) {d : D} (h : Dt g.K F H d v) : EPo g F ρ σ H (.sh d) ρ v F H := ⟨TPo.refl r, h, fun a z => by obtain ⟨⟨_, z⟩, _⟩ := z; cases z⟩
end

/-! ### new objects -/
section
variable {g : G} {F : Rg} {ρ : En} {σ : St} {H : Hp} {p : Addr} {o : HO}
theorem upd_kept (hp : H p = none) : ∀ b u, H b = some u → upd H p o b = some u := fun b u e => by
  rw [upd_ne (ne_of_none e hp)]
  exact e
theorem keeps_new (hp : H p = none) : Keeps F F H (upd H p o) where
  inn := fun _ h => h
  tup := fun b xs e => upd_kept hp _ _ e
  fzt := fun b ob xs e => upd_kept hp _ _ e
  obj := fun b u f e => by
    rcases e with e | ⟨q, e⟩
    · exact .inl (upd_kept hp _ _ e)
    · exact .inr ⟨q, upd_kept hp _ _ e⟩
theorem Rel.keptAll {H' : Hp} (r : Rel g F ρ σ H) (k : ∀ b u, H b = some u → H' b = some u) : Rel g F ρ σ H' := by
  have kp : Keeps F F H H' := ⟨fun _ h => h, fun b _ e => k _ _ e, fun _ _ _ e => k _ _ e, fun b u f e => by
    rcases e with e | ⟨q, e⟩
    · exact .inl (k _ _ e)
    · exact .inr ⟨q, k _ _ e⟩⟩
  refine ⟨r.len, fun i d e => ?_, fun i d e => ?_, r.dist, r.cupT, r.cupF, r.F0, r.Fn, fun a f => ?_, fun a u e n => k _ _ (r.base a u e n)⟩
  · obtain ⟨v, e1, h⟩ := r.sh i d e
    exact ⟨v, e1, h.keeps kp⟩
  · obtain ⟨a, e1, ob, n, f⟩ := r.own i d e
    exact ⟨a, e1, ob.keeps kp (fun u e => k _ _ e), n, f⟩
  · intro z
    cases q : H a with
    | none => exact r.Fs a f q
    | some u => rw [k _ _ q] at z; cases z
theorem TPo.keptAll {H' : Hp} (r : Rel g F ρ σ H) (k : ∀ b u, H b = some u → H' b = some u) : TPo g F ρ σ H F ρ H' := by
  refine ⟨⟨r.keptAll k, fun _ h => h, fun b u e _ => k _ _ e, fun b h z => ?_, fun _ h => .inl h, fun _ h => .inl h⟩, fun _ s h => ⟨s, h⟩, fun _ h => h⟩
  cases q : H b with
  | none => exact h q
  | some u => rw [k _ _ q] at z; cases z
theorem Rel.fresh0 (r : Rel g F ρ σ H) (hp : H p = none) : g.H0 p = none := by
  cases q : g.H0 p with
  | none => rfl
  | some u =>
    by_cases c : g.cup = some p
    · cases hc : ρ.cup with
      | true =>
        obtain ⟨c', d, e1, e2, e3⟩ := r.cupT hc
        rw [c] at e1
        cases e1
        obtain ⟨a, e4, ob, _⟩ := r.own 0 d e3
        rw [e2] at e4
        cases e4
        obtain ⟨u', e5, _⟩ := ob.mut
        rw [hp] at e5
        cases e5
      | false => rw [r.cupF hc] at c; cases c
    · have := r.base p u q c
      rw [hp] at this
      cases this
theorem Rel.notF (r : Rel g F ρ σ H) (hp : H p = none) : ¬ F p := fun f => r.Fs p f hp
/-- a new list or dict -/
theorem EPo.newObj {d : D} (r : Rel g F ρ σ H) (hp : H p = none) (ob : Mo g.K F (upd H p o) d p) : EPo g F ρ σ H (.fr d) ρ (.ref p) F (upd H p o) :=
  ⟨TPo.keptAll r (upd_kept hp), ⟨p, rfl, ob, r.notF hp, r.notOwnN hp, r.fresh0 hp⟩, fun a h => by
    obtain ⟨_, h⟩ := h
    cases h
    exact hp⟩
theorem EPo.newList {ds : List D} {xs : List V} (r : Rel g F ρ σ H) (hp : H p = none) (h : Dts g.K F H ds xs) : EPo g F ρ σ H (.fr (.list ds)) ρ (.ref p) F (upd H p (.lst xs)) :=
  EPo.newObj r hp (.inl ⟨ds, xs, rfl, upd_same, h.keeps (keeps_new hp)⟩)
/-- a new tuple -/
theorem EPo.newTup {ds : List D} {xs : List V} (r : Rel g F ρ σ H) (hp : H p = none) (h : Dts g.K F H ds xs) : EPo g F ρ σ H (.sh (.tuple ds)) ρ (.ref p) F (upd H p (.tup xs)) :=
  ⟨TPo.keptAll r (upd_kept hp), Dt.tup (.inl (.inl upd_same)) (h.keeps (keeps_new hp)), fun a h => by obtain ⟨⟨_, z⟩, _⟩ := h; cases z⟩
end

/-! ### what is our own is given away: never changed any more -/
def En.freeze1 (ρ : En) (i : Nat) : En := match ρ.sl[i]? with
  | some (some (.own d)) => { ρ with sl := ρ.sl.set i (some (.sh d)) }
  | _ => ρ
/-- a result as a value that may be put into another one -/
def W.give (ρ : En) : W → Option (D × En)
  | .sh d => some (d, ρ)
  | .fr d => some (d, ρ)
  | .vr i => match ρ.sl[i]? with
    | some (some (.sh d)) => some (d, ρ)
    | some (some (.own d)) => if ρ.cup = true ∧ i = 0 then none else some (d, { ρ with sl := ρ.sl.set i (some (.sh d)) })
    | _ => none

section
variable {g : G} {F F' : Rg} {ρ ρ' : En} {σ : St} {H H' : Hp} {w : W} {v : V}
theorem sl_set_own {sl : List (Option Sl)} {i j : Nat} {s : Option Sl} {d : D} (h : (sl.set i s)[j]? = some (some (.own d))) (hs : s = some (.own d) → False) : i ≠ j ∧ sl[j]? = some (some (.own d)) := by
  by_cases e : i = j
  · subst e
    by_cases hl : i < sl.length
    · rw [List.getElem?_set_self hl] at h
      exact (hs (Option.some.inj h)).elim
    · rw [List.getElem?_eq_none (by simpa using hl)] at h
      cases h
  · rw [List.getElem?_set_ne e] at h
    exact ⟨e, h⟩
/-- a new region that takes in the object at b -/
def plus (F : Rg) (b : Addr) : Rg := fun a => F a ∨ a = b
theorem keeps_plus {b : Addr} : Keeps F (plus F b) H H := ⟨fun _ h => .inl h, fun _ _ h => h, fun _ _ _ h => h, fun _ _ _ h => h⟩
theorem Mo.dt {K : PySem.W.Frag} {d : D} {a : Addr} (h : Mo K F H d a) : Dt K (plus F a) H d (.ref a) := by
  rcases h with ⟨ds, xs, rfl, h2, h3⟩ | ⟨ds, xs, rfl, h2, h3⟩
  · exact .lst (.inr rfl) (.inl h2) (h3.keeps keeps_plus)
  · exact .dik (.inr rfl) (.inl h2) (h3.keeps keeps_plus)
/-- the region grows by an object that is nobody's -/
theorem Rel.plus {b : Addr} (r : Rel g F ρ σ H) (no : ¬ OwnAt ρ σ b) (h0 : g.H0 b = none) (hs : H b ≠ none) : Rel g (plus F b) ρ σ H where
  len := r.len
  sh := fun i d e => let ⟨v, e1, h⟩ := r.sh i d e; ⟨v, e1, h.keeps keeps_plus⟩
  own := fun i d e => by
    obtain ⟨a, e1, ob, n, f⟩ := r.own i d e
    refine ⟨a, e1, ob.keeps keeps_plus (fun _ h => h), ?_, f⟩
    rintro (z | rfl)
    · exact n z
    · exact no ⟨i, d, e, e1⟩
  dist := r.dist
  cupT := r.cupT
  cupF := r.cupF
  F0 := fun a h => .inl (r.F0 a h)
  Fn := fun a h => by
    rcases h with h | rfl
    · exact r.Fn a h
    · exact .inr h0
  Fs := fun a h => by
    rcases h with h | rfl
    · exact r.Fs a h
    · exact hs
  base := r.base
theorem set_at {sl : List (Option Sl)} {i j : Nat} {s t : Option Sl} (h : (sl.set i s)[j]? = some t) : (i = j ∧ t = s ∧ i < sl.length) ∨ (i ≠ j ∧ sl[j]? = some t) := by
  by_cases e : i = j
  · subst e
    by_cases hl : i < sl.length
    · rw [List.getElem?_set_self hl] at h
      exact .inl ⟨rfl, (Option.some.inj h).symm, hl⟩
    · rw [List.getElem?_eq_none (by simpa using hl)] at h
      cases h
  · rw [List.getElem?_set_ne e] at h
    exact .inr ⟨e, h⟩
/-- a slot of our own is given away -/
theorem Rel.give {i : Nat} {d : D} {b : Addr} (r : Rel g F ρ σ H) (e : ρ.sl[i]? = some (some (.own d))) (eb : σ[i]? = some (some (.ref b))) (hc : ¬ (ρ.cup = true ∧ i = 0)) :
    Rel g (PD.plus F b) { ρ with sl := ρ.sl.set i (some (.sh d)) } σ H := by
  obtain ⟨a, e1, ob, n, f⟩ := r.own i d e
  rw [eb] at e1
  cases e1
  have f' : g.H0 b = none := by
    rcases f with f | f
    · exact f
    · cases hcu : ρ.cup with
      | false => rw [r.cupF hcu] at f; cases f
      | true =>
        obtain ⟨c, d', c1, c2, c3⟩ := r.cupT hcu
        rw [f] at c1
        cases c1
        exact absurd ⟨hcu, r.dist i 0 d d' b e c3 eb c2⟩ hc
  refine ⟨by simpa using r.len, fun j d' e' => ?_, fun j d' e' => ?_, fun j k d1 d2 a h1 h2 h3 h4 => ?_, fun h => ?_, r.cupF, fun a h => .inl (r.F0 a h), fun a h => ?_, fun a h => ?_, r.base⟩
  · rcases set_at e' with ⟨rfl, q, _⟩ | ⟨_, e'⟩
    · cases q
      exact ⟨_, eb, ob.dt⟩
    · obtain ⟨v, e1, h⟩ := r.sh j d' e'
      exact ⟨v, e1, h.keeps keeps_plus⟩
  · rcases set_at e' with ⟨rfl, q, _⟩ | ⟨ne, e'⟩
    · cases q
    · obtain ⟨a, e1, ob', n', f⟩ := r.own j d' e'
      refine ⟨a, e1, ob'.keeps keeps_plus (fun _ h => h), ?_, f⟩
      rintro (z | rfl)
      · exact n' z
      · exact ne (r.dist i j d d' a e e' eb e1)
  · rcases set_at h1 with ⟨rfl, q, _⟩ | ⟨_, h1⟩
    · cases q
    · rcases set_at h2 with ⟨rfl, q, _⟩ | ⟨_, h2⟩
      · cases q
      · exact r.dist j k d1 d2 a h1 h2 h3 h4
  · obtain ⟨c, d', c1, c2, c3⟩ := r.cupT h
    refine ⟨c, d', c1, c2, ?_⟩
    show (ρ.sl.set i (some (.sh d)))[0]? = _
    rw [List.getElem?_set_ne (fun z => hc ⟨h, z⟩)]
    exact c3
  · rcases h with h | rfl
    · exact r.Fn a h
    · exact .inr f'
  · rcases h with h | rfl
    · exact r.Fs a h
    · intro z
      obtain ⟨u, eu, _⟩ := ob.mut
      rw [z] at eu
      cases eu
theorem give_own {i : Nat} {d : D} {b : Addr} (h : OwnAt { ρ with sl := ρ.sl.set i (some (.sh d)) } σ b) : OwnAt ρ σ b := by
  obtain ⟨j, d', e1, e2⟩ := h
  rcases set_at e1 with ⟨rfl, q, _⟩ | ⟨_, e1⟩
  · cases q
  · exact ⟨j, d', e1, e2⟩
theorem give_pres {i : Nat} {d : D} : ∀ (j : Nat) (s : Sl), ρ.sl[j]? = some (some s) → ∃ s', (ρ.sl.set i (some (.sh d)))[j]? = some (some s') := fun j s e => by
  by_cases h : i = j
  · subst h
    exact ⟨.sh d, List.getElem?_set_self (List.getElem?_eq_some_iff.mp e).1⟩
  · exact ⟨s, by rw [List.getElem?_set_ne h]; exact e⟩
/-- a result is given away -/
theorem give_ok {d : D} (r : Rel g F ρ σ H) (h : RW g F ρ σ H v w) (e : w.give ρ = some (d, ρ')) :
    ∃ F', (∀ a, F a → F' a) ∧ (∀ a, F' a → F a ∨ OwnAt ρ σ a ∨ frAt w v a) ∧ Rel g F' ρ' σ H ∧ Dt g.K F' H d v ∧
      (∀ b, OwnAt ρ' σ b → OwnAt ρ σ b) ∧ (∀ (i : Nat) (s : Sl), ρ.sl[i]? = some (some s) → ∃ s', ρ'.sl[i]? = some (some s')) ∧ (∀ b, F' b → ¬ OwnAt ρ' σ b) := by
  cases w with
  | sh d' =>
    cases e
    exact ⟨F, fun _ h => h, fun _ h => .inl h, r, h, fun _ h => h, fun _ s h => ⟨s, h⟩, fun b h => r.notOwnF h⟩
  | fr d' =>
    cases e
    obtain ⟨a, rfl, ob, n, no, f⟩ := h
    have hs : H a ≠ none := fun z => by
      obtain ⟨u, eu, _⟩ := ob.mut
      rw [z] at eu
      cases eu
    have r' := r.plus no f hs
    refine ⟨PD.plus F a, fun _ h => .inl h, fun b h => ?_, r', ob.dt, fun _ h => h, fun _ s h => ⟨s, h⟩, fun b h => r'.notOwnF h⟩
    rcases h with h | rfl
    · exact .inl h
    · exact .inr (.inr ⟨⟨_, rfl⟩, rfl⟩)
  | vr i =>
    obtain ⟨e1, s, q⟩ := h
    simp only [W.give, q] at e
    cases s with
    | sh d' =>
      cases e
      obtain ⟨v', e2, h⟩ := r.sh i d q
      rw [e1] at e2
      cases e2
      exact ⟨F, fun _ h => h, fun _ h => .inl h, r, h, fun _ h => h, fun _ s h => ⟨s, h⟩, fun b h => r.notOwnF h⟩
    | own d' =>
      simp only at e
      split at e
      · cases e
      · rename_i hc
        cases e
        obtain ⟨a, e2, ob, n, f⟩ := r.own i d q
        rw [e1] at e2
        cases e2
        have r' := r.give q e1 hc
        refine ⟨PD.plus F a, fun _ h => .inl h, fun b h => ?_, r', ob.dt, fun _ => give_own, give_pres, fun b h => r'.notOwnF h⟩
        rcases h with h | rfl
        · exact .inl h
        · exact .inr (.inl ⟨i, d, q, e1⟩)
end
end PD
set_option Elab.async false
set_option linter.all false
set_option maxRecDepth 100000
set_option maxHeartbeats 4000000
/-! PD3: expressions: names, constants, operators, comparisons, tests, displays, subscripts. -/
namespace PD
set_option autoImplicit false
open PySem PySem.Spec L2
open PyProof.Rows hiding St

/-- a value read at its top wherever it stands, below within F -/
def Dtop (K : PySem.W.Frag) (F : Rg) (H : Hp) (d : D) (v : V) : Prop := match d with
  | .list ds => ∃ a xs, v = .ref a ∧ Rd H a (.lst xs) ∧ Dts K F H ds xs
  | .dict kvs => ∃ a ks, v = .ref a ∧ Rd H a (.dK ks) ∧ Dkv K F H kvs ks
  | d => Dt K F H d v
section
variable {K : PySem.W.Frag} {F F' : Rg} {H H' : Hp} {g : G} {ρ ρ' ρ1 ρ2 : En} {σ : St} {w : W} {v : V} {d : D}
theorem Dt.top (h : Dt K F H d v) : Dtop K F H d v := by
  cases h with
  | lst f r ds => exact ⟨_, _, rfl, r, ds⟩
  | dik f r ds => exact ⟨_, _, rfl, r, ds⟩
  | non => exact .non
  | bl b => exact .bl b
  | int i => exact .int i
  | str x => exact .str x
  | tup r ds => exact .tup r ds
theorem Mo.top {a : Addr} (h : Mo K F H d a) : Dtop K F H d (.ref a) := by
  rcases h with ⟨ds, xs, rfl, h2, h3⟩ | ⟨ds, xs, rfl, h2, h3⟩
  · exact ⟨_, _, rfl, .inl h2, h3⟩
  · exact ⟨_, _, rfl, .inl h2, h3⟩
theorem Dt.all (h : Dt K F H d v) : Dt K All H d v := h.keeps ⟨fun _ _ => trivial, fun _ _ h => h, fun _ _ _ h => h, fun _ _ _ h => h⟩
theorem Dts.all {ds : List D} {vs : List V} (h : Dts K F H ds vs) : Dts K All H ds vs := h.keeps ⟨fun _ _ => trivial, fun _ _ h => h, fun _ _ _ h => h, fun _ _ _ h => h⟩
theorem Dkv.all {ds : List (D × D)} {vs : List (Key × V)} (h : Dkv K F H ds vs) : Dkv K All H ds vs := h.keeps ⟨fun _ _ => trivial, fun _ _ h => h, fun _ _ _ h => h, fun _ _ _ h => h⟩
theorem Dtop.all (h : Dtop K F H d v) : Dt K All H d v := by
  cases d with
  | list ds => obtain ⟨a, xs, rfl, r, h⟩ := h; exact .lst trivial r h.all
  | dict ds => obtain ⟨a, xs, rfl, r, h⟩ := h; exact .dik trivial r h.all
  | none => exact Dt.all h
  | bool b => exact Dt.all h
  | int i => exact Dt.all h
  | str x => exact Dt.all h
  | tuple ds => exact Dt.all h
theorem RW.top (r : Rel g F ρ σ H) (h : RW g F ρ σ H v w) (e : w.get ρ = some d) : Dtop g.K F H d v := by
  cases w with
  | sh d' => cases e; exact Dt.top h
  | fr d' =>
    cases e
    obtain ⟨a, rfl, o, _⟩ := h
    exact o.top
  | vr i =>
    obtain ⟨e1, s, q⟩ := h
    have e' : some s.d = some d := by simpa only [W.get, En.at, q] using e
    cases e'
    cases s with
    | sh d' =>
      obtain ⟨v', e2, h⟩ := r.sh i d' q
      rw [e1] at e2
      cases e2
      exact Dt.top h
    | own d' =>
      obtain ⟨a, e2, o, _⟩ := r.own i d' q
      rw [e1] at e2
      cases e2
      exact o.top
end

/-- what an operation by values leaves: a value over the heap as it was, a new tuple, a new list or dict -/
def NewR (K : PySem.W.Frag) (F : Rg) (H : Hp) (v : V) (H' : Hp) : W → Prop
  | .sh d => (H' = H ∧ Dt K F H d v) ∨ ∃ p ds xs, d = .tuple ds ∧ v = .ref p ∧ H p = none ∧ H' = upd H p (.tup xs) ∧ Dts K F H ds xs
  | .fr d => ∃ p o, v = .ref p ∧ H p = none ∧ H' = upd H p o ∧ Mo K F H' d p
  | .vr _ => False
section
variable {F F' : Rg} {H H' : Hp} {g : G} {ρ ρ' ρ1 ρ2 : En} {σ : St} {w : W} {v : V} {d : D}
theorem NewR.epo (r : Rel g F ρ σ H) (h : NewR g.K F H v H' w) : EPo g F ρ σ H w ρ v F H' := by
  cases w with
  | sh d =>
    rcases h with ⟨rfl, h⟩ | ⟨p, ds, xs, rfl, rfl, hp, rfl, h⟩
    · exact EPo.val r h
    · exact EPo.newTup r hp h
  | fr d =>
    obtain ⟨p, o, rfl, hp, rfl, h⟩ := h
    exact EPo.newObj r hp h
  | vr i => exact h.elim
theorem NewR.val {K : PySem.W.Frag} (h : Dt K F H d v) : NewR K F H v H (.sh d) := .inl ⟨rfl, h⟩
theorem NewR.tup {K : PySem.W.Frag} {p : Addr} {ds : List D} {xs : List V} (hp : H p = none) (h : Dts K F H ds xs) : NewR K F H (.ref p) (upd H p (.tup xs)) (.sh (.tuple ds)) := .inr ⟨p, ds, xs, rfl, rfl, hp, rfl, h⟩
theorem NewR.lst {K : PySem.W.Frag} {p : Addr} {ds : List D} {xs : List V} (hp : H p = none) (h : Dts K F H ds xs) : NewR K F H (.ref p) (upd H p (.lst xs)) (.fr (.list ds)) :=
  ⟨p, _, rfl, hp, rfl, .inl ⟨ds, xs, rfl, upd_same, h.keeps (keeps_new hp)⟩⟩
end

/-! ### names and constants -/
def dC (d : D) : DE := fun ρ => some (.sh d, ρ)
def dVar (i : Nat) : DE := fun ρ => match ρ.sl[i]? with
  | some (some (.sh d)) => some (.sh d, ρ)
  | some (some (.own _)) => some (.vr i, ρ)
  | _ => none
section
variable {X : Cx} {pos : Pos}
theorem pd_var (i : Nat) {x : Str} (h : PE X (.Name x pos) (tVar i)) : PED X (.Name x pos) (dVar i) := fun g hg => h.wk fun σ H Q t => by
  obtain ⟨F, ρ, r, w, ρ', e, q⟩ := t
  unfold dVar at e
  split at e
  · rename_i d hd
    cases e
    obtain ⟨v, e1, h⟩ := r.sh i d hd
    exact ⟨v, e1, q v H F (EPo.val r h)⟩
  · rename_i d hd
    cases e
    obtain ⟨a, e1, _⟩ := r.own i d hd
    exact ⟨_, e1, q _ H F ⟨TPo.refl r, ⟨e1, _, hd⟩, fun a z => by obtain ⟨⟨_, z⟩, _⟩ := z; cases z⟩⟩
  · cases e
theorem pd_c {e : Expr} {v : V} {d : D} (h : PE X e (tC v)) (hd : ∀ K F H, Dt K F H d v) : PED X e (dC d) := fun g hg => h.wk fun σ H Q t => by
  obtain ⟨F, ρ, r, w, ρ', e, q⟩ := t
  cases e
  exact q v H F (EPo.val r (hd _ _ _))
theorem pd_int {i j} : PED X (.Constant (.int i) j pos) (dC (.int i)) := pd_c pe_int fun _ _ _ => .int i
theorem pd_bl {b j} : PED X (.Constant (.bool b) j pos) (dC (.bool b)) := pd_c pe_bl fun _ _ _ => .bl b
theorem pd_non {j} : PED X (.Constant .none j pos) (dC .none) := pd_c pe_non fun _ _ _ => .non
theorem pd_str {x j} : PED X (.Constant (.str x) j pos) (dC (.str x)) := pd_c pe_str fun _ _ _ => .str x
theorem pd_gint {x : Str} {n : Int} {t : Tok} (hg : Gl X x) (hm : X.mg x = some (.int n t)) (hd : (x == ("__debug__" : Str)) = false := by decide) : PED X (.Name x pos) (dC (.int n)) :=
  pd_c (pe_glob (v := .int n) hg hm ⟨t, rfl⟩ hd) fun _ _ _ => .int n
end

/-! ### operators by data -/
structure F2 (X : Cx) (f : Value → Value → Sem Value) (sem : D → D → Option W) : Prop where
  ex : ∃ r, OpR X f r ∧ ∀ (F : Rg) (H : Hp) (a b : D) (va vb : V) (w : W) (Q : VK), Dtop X.K F H a va → Dtop X.K F H b vb → sem a b = some w → (∀ v H', NewR X.K F H v H' w → Q v H') → r va vb H Q
def dBin (sem : D → D → Option W) (fa fb : DE) : DE := fun ρ => (fa ρ).bind fun x => (fb x.2).bind fun y => (x.1.get y.2).bind fun a => (y.1.get y.2).bind fun b => (sem a b).map fun w => (w, y.2)
section
variable {X : Cx} {pos : Pos} {a b c : Expr} {fa fb fc : DE}
/-- two expressions in a row, then what is asked of their values -/
theorem two {g : G} {sem : D → D → Option W} {σ : St} {H : Hp} {Q : VK} (t : tE g (dBin sem fa fb) σ H Q) {R : V → V → Hp → Prop}
    (h : ∀ (F : Rg) (ρ : En) (H2 : Hp) (a b : D) (va vb : V) (w : W), Rel g F ρ σ H2 → Dtop g.K F H2 a va → Dtop g.K F H2 b vb → sem a b = some w → (∀ v H', NewR g.K F H2 v H' w → Q v H') → R va vb H2) :
    tE g fa σ H fun x H1 => tE g fb σ H1 fun y H2 => R x y H2 := by
  obtain ⟨F, ρ, r, w, ρ', e, q⟩ := t
  unfold dBin at e
  obtain ⟨⟨x, ρ1⟩, e1, e⟩ := Option.bind_eq_some_iff.mp e
  obtain ⟨⟨y, ρ2⟩, e2, e⟩ := Option.bind_eq_some_iff.mp e
  obtain ⟨da, e3, e⟩ := Option.bind_eq_some_iff.mp e
  obtain ⟨db, e4, e⟩ := Option.bind_eq_some_iff.mp e
  obtain ⟨w', e5, e⟩ := Option.map_eq_some_iff.mp e
  cases e
  refine ⟨F, ρ, r, x, ρ1, e1, fun v H1 F1 p1 => ⟨F1, ρ1, p1.t.post.rel, y, ρ2, e2, fun u H2 F2 p2 => ?_⟩⟩
  have r2 := p2.t.post.rel
  exact h F2 ρ2 H2 da db v u _ r2 (RW.top r2 (p1.rw.step p1.t.post.rel p2.t) e3) (RW.top r2 p2.rw e4) e5 fun v' H' n => q v' H' F2 (EPo.then r (p1.t.trans r p2.t) (n.epo r2))
theorem pd_bin {op : Operator} {sem : D → D → Option W} (ho : F2 X (binaryOp op) sem) (ha : PED X a fa) (hb : PED X b fb) : PED X (.BinOp a op b pos) (dBin sem fa fb) := fun g hg => by
  obtain ⟨r, hr, hq⟩ := ho.ex
  refine (pe_op hr (ha g hg) (hb g hg)).wk fun σ H Q t => ?_
  exact two t fun F ρ H2 da db va vb w r2 ta tb e q => hq F H2 da db va vb w Q (hg ▸ ta) (hg ▸ tb) e fun v H' n => q v H' (hg ▸ n)
end

def bAdd : D → D → Option W
  | .int i, .int j => some (.sh (.int (i + j)))
  | .list xs, .list ys => if xs.length + ys.length ≤ 16777216 then some (.fr (.list (xs ++ ys))) else none
  | .tuple xs, .tuple ys => if xs.length + ys.length ≤ 16777216 then some (.sh (.tuple (xs ++ ys))) else none
  | .str x, .str y => if x.length + y.length ≤ 16777216 then some (.sh (.str (x ++ y))) else none
  | _, _ => none
def bSub : D → D → Option W
  | .int i, .int j => some (.sh (.int (i - j)))
  | _, _ => none
/-- (behind a name: else the kernel may count down from such a number) -/
def okDiv (j : Int) : Prop := 0 < j ∧ j < 1073741824
open Classical in
noncomputable def bDiv : D → D → Option W
  | .int i, .int j => if okDiv j then some (.sh (.int (i / j))) else none
  | _, _ => none
def bMod : D → D → Option W
  | .int i, .int j => if 0 < j then some (.sh (.int (i % j))) else none
  | _, _ => none
def okPow (i j : Int) : Prop := 0 ≤ j ∧ j ≤ 1000000 ∧ i.natAbs < 18446744073709551616
open Classical in
noncomputable def bPow : D → D → Option W
  | .int i, .int j => if okPow i j then some (.sh (.int (i ^ j.toNat))) else none
  | _, _ => none

section
variable {X : Cx}
theorem Dtop.int_inv {K : PySem.W.Frag} {F : Rg} {H : Hp} {i : Int} {v : V} (h : Dtop K F H (.int i) v) : v = .int i := by
  cases (show Dt K F H (.int i) v from h)
  rfl
theorem Dtop.str_inv {K : PySem.W.Frag} {F : Rg} {H : Hp} {i : Str} {v : V} (h : Dtop K F H (.str i) v) : v = .str i := by
  cases (show Dt K F H (.str i) v from h)
  rfl
theorem Dtop.bool_inv {K : PySem.W.Frag} {F : Rg} {H : Hp} {i : Bool} {v : V} (h : Dtop K F H (.bool i) v) : v = .bl i := by
  cases (show Dt K F H (.bool i) v from h)
  rfl
theorem Dtop.tup_inv {K : PySem.W.Frag} {F : Rg} {H : Hp} {ds : List D} {v : V} (h : Dtop K F H (.tuple ds) v) : ∃ a xs, v = .ref a ∧ SqT K H a xs ∧ Dts K F H ds xs := by
  cases (show Dt K F H (.tuple ds) v from h)
  exact ⟨_, _, rfl, by assumption, by assumption⟩
theorem lst_obj {pins : List (Addr × Obj)} {σ : St} {H : Hp} {s : Shared} {l : Addr} {xs : List V} (I : Inv X pins σ H s) (h : Rd H l (.lst xs)) :
    ∃ (its : List Value) (n : Nat), Vals xs its ∧ xs.length = its.length ∧ s.heap.get? l = some { cls := .type "list", data := .seq its.toArray n } := by
  obtain ⟨_, its, n, r, e⟩ := h.ok I.hok
  exact ⟨its, n, r, r.length, e⟩
theorem op_catR : OpR X (binaryOp .Add) (fun x y H Q => ∃ l b xs zs, x = .ref l ∧ y = .ref b ∧ Rd H l (.lst xs) ∧ Rd H b (.lst zs) ∧ xs.length + zs.length ≤ sizeLine ∧ ∀ p, H p = none → Q (.ref p) (upd H p (.lst (xs ++ zs)))) := by
  intro pins s σ H x y v u Q I rx ry ⟨l, b, xs, zs, hx, hy, hl, hb, hz, q⟩
  subst hx hy
  cases rx
  cases ry
  obtain ⟨i1, n1, r1, l1, e1⟩ := lst_obj I hl
  obtain ⟨i2, n2, r2, l2, e2⟩ := lst_obj I hb
  refine PySem.P.add_list e1 e2 ?_ (by simp only [List.size_toArray]; omega)
  have ea : i1.toArray ++ i2.toArray = (i1 ++ i2).toArray := by simp
  rw [ea]
  exact ⟨.ref _, _, I.lnew (t' := s.toks) (r1.append r2) (by simp only [List.length_append]; omega), rfl, q _ I.fresh⟩
theorem f2_add : F2 X (binaryOp .Add) bAdd := by
  refine ⟨_, op_add.or (op_catR.or (op_catA.or op_add_str)), fun F H a b va vb w Q ha hb e q => ?_⟩
  unfold bAdd at e
  split at e
  · cases e
    cases ha.int_inv
    cases hb.int_inv
    exact .inl ⟨_, _, rfl, rfl, q _ _ (.val (.int _))⟩
  · split at e
    · rename_i hz
      cases e
      obtain ⟨l, xs, rfl, h1, d1⟩ := ha
      obtain ⟨m, ys, rfl, h2, d2⟩ := hb
      refine .inr (.inl ⟨l, m, xs, ys, rfl, rfl, h1, h2, by rw [sizeLine_eq, ← d1.length, ← d2.length]; exact hz, fun p hp => q _ _ (.lst hp (d1.append d2))⟩)
    · cases e
  · split at e
    · rename_i hz
      cases e
      obtain ⟨l, xs, rfl, h1, d1⟩ := ha.tup_inv
      obtain ⟨m, ys, rfl, h2, d2⟩ := hb.tup_inv
      refine .inr (.inr (.inl ⟨l, m, xs, ys, rfl, rfl, h1, h2, by rw [sizeLine_eq, ← d1.length, ← d2.length]; exact hz, fun z => ?_, fun _ z => ?_, fun _ _ p hp => q _ _ (.tup hp (d1.append d2))⟩))
      · have z' := d1.nil_iff.mpr z
        rw [z'] at q
        exact q _ _ (.val (.tup h2 d2))
      · have z' := d2.nil_iff.mpr z
        rw [z', List.append_nil] at q
        exact q _ _ (.val (.tup h1 d1))
    · cases e
  · split at e
    · rename_i hz
      cases e
      cases ha.str_inv
      cases hb.str_inv
      exact .inr (.inr (.inr ⟨_, _, rfl, rfl, by rw [sizeLine_eq]; exact hz, q _ _ (.val (.str _))⟩))
    · cases e
  · cases e
theorem f2_sub : F2 X (binaryOp .Sub) bSub := by
  refine ⟨_, op_sub, fun F H a b va vb w Q ha hb e q => ?_⟩
  unfold bSub at e
  split at e
  · cases e
    cases ha.int_inv
    cases hb.int_inv
    exact ⟨_, _, rfl, rfl, q _ _ (.val (.int _))⟩
  · cases e
theorem f2_div : F2 X (binaryOp .FloorDiv) bDiv := by
  refine ⟨_, op_fdiv, fun F H a b va vb w Q ha hb e q => ?_⟩
  unfold bDiv at e
  split at e
  · split at e
    · rename_i h
      cases e
      cases ha.int_inv
      cases hb.int_inv
      exact ⟨_, _, rfl, rfl, h, q _ _ (.val (.int _))⟩
    · cases e
  · cases e
theorem f2_mod : F2 X (binaryOp .Mod) bMod := by
  refine ⟨_, op_mod, fun F H a b va vb w Q ha hb e q => ?_⟩
  unfold bMod at e
  split at e
  · split at e
    · rename_i h
      cases e
      cases ha.int_inv
      cases hb.int_inv
      exact ⟨_, _, rfl, rfl, h, q _ _ (.val (.int _))⟩
    · cases e
  · cases e
theorem f2_pow : F2 X (binaryOp .Pow) bPow := by
  refine ⟨_, op_pow, fun F H a b va vb w Q ha hb e q => ?_⟩
  unfold bPow at e
  split at e
  · split at e
    · rename_i h
      cases e
      cases ha.int_inv
      cases hb.int_inv
      exact ⟨_, _, rfl, rfl, ⟨h.1, h.2.1, by have := h.2.2; omega⟩, q _ _ (.val (.int _))⟩
    · cases e
  · cases e
end
end PD
set_option Elab.async false
set_option linter.all false
set_option maxRecDepth 100000
set_option maxHeartbeats 4000000
/-! PD4: products of lists and tuples, comparisons. -/
namespace PD
set_option autoImplicit false
open PySem PySem.Spec L2
open PyProof.Rows hiding St

theorem tuple_mul_one (l : Addr) (items : Array Value) (n : Nat) (dd : Option Addr) (sl : Array (Option Value)) (u : Tok) :
    Meets (Builtin.«tuple.__mul__» ⟨[.ref l, .int 1 u], []⟩) (fun _ R s => s.heap.get? l = some { cls := .type "tuple", dict := dd, data := .seq items n, slots := sl } ∧ R (.ok (.ret (Value.ref l))) s) :=
  .of_wp fun prog w A R s h => by
    obtain ⟨hp, g, d, tk, os⟩ := s
    obtain ⟨hl, h⟩ := h
    have f1 := AutoSeq1.idx_int
    wp_walk using wpAny_loadPart' hl
    repeat (first
      | (refine wpAny_ite_true (decide_eq_true (by rw [show ((1 : Int) == 1) = true from rfl, Bool.or_true])) ?_; wp_walk using wpAny_loadPart' hl)
      | (refine wpAny_ite_false (decide_eq_false (by decide)) ?_; wp_walk using wpAny_loadPart' hl))
    exact ⟨_, rfl, h⟩

section
variable {X : Cx}
/-- t * 1 is t -/
theorem op_repOne : OpR X (binaryOp .Mult) (fun x y H Q => ∃ l xs, x = .ref l ∧ y = .int 1 ∧ SqT X.K H l xs ∧ Q (.ref l) H) := by
  intro pins s σ H x y v u Q I rx ry ⟨l, xs, hx, hy, hT, q⟩
  subst hx hy
  cases rx
  obtain ⟨t, et⟩ := ry
  subst et
  obtain ⟨its, r, ⟨⟨cls, dd, data, sl⟩, ho, hc, n, hd⟩, hs⟩ := I.tuple hT
  simp only at hc hd
  subst hc hd
  exact wpAny_binaryOp_repeat_ref (T := "tuple") (U := "int") (by decide) ⟨_, ho, rfl⟩ (fun s' => typeIs_int s' 1 t) noFill_tuple_mul F.fills_int_mul F.slot_int_rmul repeat_tuple F.slot_int_index.lookup
    (call_meets F.slot_int_rmul (typeIs_int s 1 t) F.entry_int_rmul (F.args_int_rmul_2 _ _) (int_rmul_tuple 1 t l its.toArray n dd sl)
      ⟨ho, rfl, ⟨_, ho, rfl⟩, call_meets F.slot_tuple_mul ⟨_, ho, rfl⟩ F.entry_tuple_mul (F.args_tuple_mul_2 _ _) (tuple_mul_one l its.toArray n dd sl t) ⟨ho, ⟨.ref l, H, I, rfl, q⟩⟩⟩)
theorem op_repL : OpR X (binaryOp .Mult) (fun x y H Q => ∃ l k xs, x = .ref l ∧ y = .int k ∧ Rd H l (.lst xs) ∧ 0 ≤ k ∧ k ≤ 1000 ∧ xs.length ≤ 1000 ∧ ∀ p, H p = none → Q (.ref p) (upd H p (.lst (List.replicate k.toNat xs).flatten))) := by
  intro pins s σ H x y v u Q I rx ry ⟨l, k, xs, hx, hy, hL, h1, h2, hz, q⟩
  subst hx hy
  cases rx
  obtain ⟨t, et⟩ := ry
  subst et
  obtain ⟨its, n, r, hl, e⟩ := lst_obj I hL
  have hm : its.toArray.size * k.toNat ≤ 1000000 := by
    rw [List.size_toArray, ← hl]
    exact Nat.mul_le_mul hz (by omega : k.toNat ≤ 1000)
  have hm2 : its.toArray.size * k.toNat ≤ sizeLine := by rw [sizeLine_eq]; omega
  have hcap : ¬ its.toArray.size * k.toNat > (2 ^ 63 - 1) / 8 := by omega
  have hfit : ¬ (!Builtin.List.listFitsIndex k) = true := by
    rw [fitsIndex_both (by omega) (by omega)]
    decide
  have hlong : ¬ Builtin.List.listTooLong (its.toArray.size * k.toNat) = true := by
    rw [notLongL hm2]
    decide
  have hnew : List.foldl (fun x1 x2 => x1 ++ x2) #[] (List.replicate (if its.toArray.isEmpty = true then 0 else k.toNat) its.toArray) = (List.replicate k.toNat its).flatten.toArray := by
    cases its with
    | nil => simp
    | cons a b =>
      rw [if_neg (by simp)]
      have z := foldl_rep (a :: b) k.toNat []
      simpa using z
  refine wpAny_binaryOp_repeat_ref (T := "list") (U := "int") (by decide) ⟨_, e, rfl⟩ (fun s' => typeIs_int s' k t) noFill_list_mul F.fills_int_mul F.slot_int_rmul repeat_list F.slot_int_index.lookup
    (call_meets F.slot_int_rmul (typeIs_int s k t) F.entry_int_rmul (F.args_int_rmul_2 _ _) (int___rmul___int_list k t l its.toArray n)
      ⟨e, rfl, ⟨_, e, rfl⟩, call_meets F.slot_list_mul ⟨_, e, rfl⟩ F.entry_list_mul (F.args_list_mul_2 _ _) (AutoListH.list___mul___list_int_3 l its.toArray n k t hfit hcap hlong) ⟨e, ?_⟩⟩)
  rw [hnew]
  refine ⟨.ref _, _, I.lnew (t' := s.toks) (r.rep k.toNat) ?_, rfl, q _ I.fresh⟩
  rw [PyProof.Rows.lm_len_rep_flat, Nat.mul_comm, hl]
  simpa using hm2

def okMul (i j : Int) : Prop := (-18446744073709551616 < i ∧ i < 18446744073709551616) ∨ (-18446744073709551616 < j ∧ j < 18446744073709551616)
open Classical in
noncomputable def bMul : D → D → Option W
  | .int i, .int j => if okMul i j then some (.sh (.int (i * j))) else none
  | .list xs, .int k => if 0 ≤ k ∧ k ≤ 1000 ∧ xs.length ≤ 1000 then some (.fr (.list (List.replicate k.toNat xs).flatten)) else none
  | .tuple xs, .int k => if 1 ≤ k ∧ k ≤ 1000 ∧ xs.length ≤ 1000 ∧ xs ≠ [] then some (.sh (.tuple (List.replicate k.toNat xs).flatten)) else none
  | _, _ => none
theorem f2_mul : F2 X (binaryOp .Mult) bMul := by
  refine ⟨_, op_mul.or (op_repL.or (op_repT.or op_repOne)), fun F H a b va vb w Q ha hb e q => ?_⟩
  unfold bMul at e
  split at e
  · split at e
    · rename_i h
      cases e
      cases ha.int_inv
      cases hb.int_inv
      exact .inl ⟨_, _, rfl, rfl, h, q _ _ (.val (.int _))⟩
    · cases e
  · split at e
    · rename_i h
      cases e
      obtain ⟨l, xs, rfl, h1, d1⟩ := ha
      cases hb.int_inv
      exact .inr (.inl ⟨l, _, xs, rfl, rfl, h1, h.1, h.2.1, by rw [← d1.length]; exact h.2.2, fun p hp => q _ _ (.lst hp (d1.rep _))⟩)
    · cases e
  · split at e
    · rename_i k h
      cases e
      obtain ⟨l, xs, rfl, h1, d1⟩ := ha.tup_inv
      cases hb.int_inv
      by_cases hk : k = 1
      · subst hk
        refine .inr (.inr (.inr ⟨l, xs, rfl, rfl, h1, q _ _ (.val ?_)⟩))
        rw [show (1 : Int).toNat = 1 from rfl, List.replicate_one, List.flatten_cons, List.flatten_nil, List.append_nil]
        exact .tup h1 d1
      · exact .inr (.inr (.inl ⟨l, k, xs, rfl, rfl, h1, fun z => h.2.2.2 (d1.nil_iff.mpr z), by omega, h.2.1, by rw [← d1.length]; exact h.2.2.1, fun p hp => q _ _ (.tup hp (d1.rep _))⟩))
    · cases e
  · cases e
end

/-! ### comparisons by data -/
structure C2 (X : Cx) (op : CmpOp) (sem : D → D → Option Bool) : Prop where
  ex : ∃ r, OpR X (compareOp op) r ∧ ∀ (F : Rg) (H : Hp) (a b : D) (va vb : V) (k : Bool) (Q : VK), Dtop X.K F H a va → Dtop X.K F H b vb → sem a b = some k → Q (.bl k) H → r va vb H Q
def wB (sem : D → D → Option Bool) : D → D → Option W := fun a b => (sem a b).map fun k => .sh (.bool k)
def dCmp (sem : D → D → Option Bool) (fa fb : DE) : DE := dBin (wB sem) fa fb
/-- the same as a test -/
def dCmpT (sem : D → D → Option Bool) (fa fb : DE) : DT := fun ρ => (fa ρ).bind fun x => (fb x.2).bind fun y => (x.1.get y.2).bind fun a => (y.1.get y.2).bind fun b => (sem a b).map fun k => (k, y.2)
/-- a < b < c -/
def dChainT (sem sem' : D → D → Option Bool) (fa fb fc : DE) : DT := fun ρ => (fa ρ).bind fun x => (fb x.2).bind fun y => (x.1.get y.2).bind fun a => (y.1.get y.2).bind fun b => (sem a b).bind fun k =>
  if k = true then (fc y.2).bind fun z => (y.1.get z.2).bind fun b' => (z.1.get z.2).bind fun c => (sem' b' c).map fun k' => (k', z.2) else some (false, y.2)
def dOfT (f : DT) : DE := fun ρ => (f ρ).map fun x => (.sh (.bool x.1), x.2)
section
variable {X : Cx} {pos : Pos} {a b c : Expr} {fa fb fc : DE}
theorem C2.f2 {op : CmpOp} {sem : D → D → Option Bool} (h : C2 X op sem) : F2 X (compareOp op) (wB sem) := by
  obtain ⟨r, hr, hq⟩ := h.ex
  refine ⟨r, hr, fun F H a b va vb w Q ha hb e q => ?_⟩
  obtain ⟨k, e1, rfl⟩ := Option.map_eq_some_iff.mp e
  exact hq F H a b va vb k Q ha hb e1 (q _ _ (.val (.bl _)))
theorem pd_cmp {op : CmpOp} {sem : D → D → Option Bool} (ho : C2 X op sem) (ha : PED X a fa) (hb : PED X b fb) (hm : behindInMarks op b = false) : PED X (.Compare a [op] [b] pos) (dCmp sem fa fb) := fun g hg => by
  obtain ⟨r, hr, hq⟩ := ho.f2.ex
  refine (pe_cmpR hr (ha g hg) (hb g hg) hm).wk fun σ H Q t => ?_
  exact two t fun F ρ H2 da db va vb w r2 ta tb e q => hq F H2 da db va vb w Q (hg ▸ ta) (hg ▸ tb) e fun v H' n => q v H' (hg ▸ n)
/-- two expressions in a row, ahead of a test -/
theorem twoT {g : G} {sem : D → D → Option Bool} {σ : St} {H : Hp} {Q : Bool → Hp → Prop} (t : tT g (dCmpT sem fa fb) σ H Q) {R : V → V → Hp → Prop}
    (h : ∀ (F : Rg) (ρ : En) (H2 : Hp) (a b : D) (va vb : V) (k : Bool), Rel g F ρ σ H2 → Dtop g.K F H2 a va → Dtop g.K F H2 b vb → sem a b = some k → Q k H2 → R va vb H2) :
    tE g fa σ H fun x H1 => tE g fb σ H1 fun y H2 => R x y H2 := by
  obtain ⟨F, ρ, r, w, ρ', e, q⟩ := t
  unfold dCmpT at e
  obtain ⟨⟨x, ρ1⟩, e1, e⟩ := Option.bind_eq_some_iff.mp e
  obtain ⟨⟨y, ρ2⟩, e2, e⟩ := Option.bind_eq_some_iff.mp e
  obtain ⟨da, e3, e⟩ := Option.bind_eq_some_iff.mp e
  obtain ⟨db, e4, e⟩ := Option.bind_eq_some_iff.mp e
  obtain ⟨w', e5, e⟩ := Option.map_eq_some_iff.mp e
  cases e
  refine ⟨F, ρ, r, x, ρ1, e1, fun v H1 F1 p1 => ⟨F1, ρ1, p1.t.post.rel, y, ρ2, e2, fun u H2 F2 p2 => ?_⟩⟩
  have r2 := p2.t.post.rel
  exact h F2 ρ2 H2 da db v u _ r2 (RW.top r2 (p1.rw.step p1.t.post.rel p2.t) e3) (RW.top r2 p2.rw e4) e5 (q H2 F2 (p1.t.trans r p2.t))
theorem pt_cmp {op : CmpOp} {sem : D → D → Option Bool} (ho : C2 X op sem) (ha : PED X a fa) (hb : PED X b fb) (hm : behindInMarks op b = false) : PTD X (.Compare a [op] [b] pos) (dCmpT sem fa fb) := fun g hg => by
  obtain ⟨r, hr, hq⟩ := ho.ex
  refine (pt_cmpR hr (ha g hg) (hb g hg) hm).wk fun σ H Q t => ?_
  exact twoT t fun F ρ H2 da db va vb k r2 ta tb e q => hq F H2 da db va vb k _ (hg ▸ ta) (hg ▸ tb) e ⟨k, rfl, q⟩
theorem chain_ok {g : G} (hg : g.K = X.K) {sem sem' : D → D → Option Bool} {r r' : R2} (hq : ∀ (F : Rg) (H : Hp) (a b : D) (va vb : V) (k : Bool) (Q : VK), Dtop X.K F H a va → Dtop X.K F H b vb → sem a b = some k → Q (.bl k) H → r va vb H Q)
    (hq' : ∀ (F : Rg) (H : Hp) (a b : D) (va vb : V) (k : Bool) (Q : VK), Dtop X.K F H a va → Dtop X.K F H b vb → sem' a b = some k → Q (.bl k) H → r' va vb H Q) {σ : St} {H : Hp} {Q : Bool → Hp → Prop} {Q' : VK} (hQ : ∀ k H, Q k H → Q' (.bl k) H)
    (t : tT g (dChainT sem sem' fa fb fc) σ H Q) : tChain r r' (tE g fa) (tE g fb) (tE g fc) σ H Q' := by
  obtain ⟨F, ρ, r, w, ρ', e, q⟩ := t
  unfold dChainT at e
  obtain ⟨⟨x, ρ1⟩, e1, e⟩ := Option.bind_eq_some_iff.mp e
  obtain ⟨⟨y, ρ2⟩, e2, e⟩ := Option.bind_eq_some_iff.mp e
  obtain ⟨da, e3, e⟩ := Option.bind_eq_some_iff.mp e
  obtain ⟨db, e4, e⟩ := Option.bind_eq_some_iff.mp e
  obtain ⟨k, e5, e⟩ := Option.bind_eq_some_iff.mp e
  refine ⟨F, ρ, r, x, ρ1, e1, fun v H1 F1 p1 => ⟨F1, ρ1, p1.t.post.rel, y, ρ2, e2, fun u H2 F2 p2 => ?_⟩⟩
  have r2 := p2.t.post.rel
  refine hq F2 H2 da db v u k _ (hg ▸ RW.top r2 (p1.rw.step p1.t.post.rel p2.t) e3) (hg ▸ RW.top r2 p2.rw e4) e5 ⟨k, rfl, ?_⟩
  cases k with
  | false =>
    rw [if_neg (by decide)] at e
    cases e
    rw [if_neg (by decide)]
    exact hQ _ _ (q H2 F2 (p1.t.trans r p2.t))
  | true =>
    rw [if_pos rfl] at e
    obtain ⟨⟨z, ρ3⟩, e6, e⟩ := Option.bind_eq_some_iff.mp e
    obtain ⟨db', e7, e⟩ := Option.bind_eq_some_iff.mp e
    obtain ⟨dc, e8, e⟩ := Option.bind_eq_some_iff.mp e
    obtain ⟨k', e9, e⟩ := Option.map_eq_some_iff.mp e
    cases e
    rw [if_pos rfl]
    refine ⟨F2, ρ2, r2, z, ρ3, e6, fun w' H3 F3 p3 => ?_⟩
    have r3 := p3.t.post.rel
    exact hq' F3 H3 db' dc u w' _ Q' (hg ▸ RW.top r3 (p2.rw.step r2 p3.t) e7) (hg ▸ RW.top r3 p3.rw e8) e9 (hQ _ _ (q H3 F3 (p1.t.trans r (p2.t.trans p1.t.post.rel p3.t))))
theorem pt_chain {op op' : CmpOp} {sem sem' : D → D → Option Bool} (ho : C2 X op sem) (ho' : C2 X op' sem') (ha : PED X a fa) (hb : PED X b fb) (hc : PED X c fc) (hm : lastMarks [op, op'] [b, c] = false := by rfl) : PTD X (.Compare a [op, op'] [b, c] pos) (dChainT sem sem' fa fb fc) := fun g hg => by
  obtain ⟨r, hr, hq⟩ := ho.ex
  obtain ⟨r', hr', hq'⟩ := ho'.ex
  refine (L2.pt_chain hr hr' (ha g hg) (hb g hg) (hc g hg) hm).wk fun σ H Q t => ?_
  exact chain_ok hg hq hq' (Q' := fun x H' => ∃ k, x = .bl k ∧ Q k H') (fun k H h => ⟨k, rfl, h⟩) t
theorem pd_chain {op op' : CmpOp} {sem sem' : D → D → Option Bool} (ho : C2 X op sem) (ho' : C2 X op' sem') (ha : PED X a fa) (hb : PED X b fb) (hc : PED X c fc) (hm : lastMarks [op, op'] [b, c] = false := by rfl) : PED X (.Compare a [op, op'] [b, c] pos) (dOfT (dChainT sem sem' fa fb fc)) := fun g hg => by
  obtain ⟨r, hr, hq⟩ := ho.ex
  obtain ⟨r', hr', hq'⟩ := ho'.ex
  refine (L2.pe_chain hr hr' (ha g hg) (hb g hg) (hc g hg) hm).wk fun σ H Q t => ?_
  obtain ⟨F, ρ, r0, w, ρ', e, q⟩ := t
  obtain ⟨⟨k, ρ2⟩, e1, e⟩ := Option.map_eq_some_iff.mp e
  cases e
  refine chain_ok hg hq hq' (Q := fun k' H' => k' = k ∧ ∃ F', TPo g F ρ σ H F' ρ2 H') (fun k' H' h => ?_) ⟨F, ρ, r0, k, ρ2, e1, fun H' F' p => ⟨rfl, F', p⟩⟩
  obtain ⟨rfl, F', p⟩ := h
  exact q _ _ F' ⟨p, .bl _, fun a z => by obtain ⟨⟨_, z⟩, _⟩ := z; cases z⟩
end

def ints? : List D → Option (List Int)
  | [] => some []
  | .int i :: r => (ints? r).map (i :: ·)
  | _ => none
theorem ints?_some : ∀ {ds : List D} {ns : List Int}, ints? ds = some ns → ds = ns.map PyData.int
  | [], _, h => by cases h; rfl
  | .int i :: r, ns, h => by
    obtain ⟨ms, e1, e2⟩ := Option.map_eq_some_iff.mp h
    rw [ints?_some e1, ← e2]
    rfl
  | .none :: _, _, h => by cases h
  | .bool _ :: _, _, h => by cases h
  | .str _ :: _, _, h => by cases h
  | .list _ :: _, _, h => by cases h
  | .tuple _ :: _, _, h => by cases h
  | .dict _ :: _, _, h => by cases h
theorem ints?_map : ∀ ns : List Int, ints? (ns.map PyData.int) = some ns
  | [] => rfl
  | n :: ns => by rw [List.map_cons, ints?, ints?_map ns]; rfl

def cLt : D → D → Option Bool
  | .int i, .int j => some (decide (i < j))
  | .tuple xs, .tuple ys => (ints? xs).bind fun ns => (ints? ys).map fun ms => HT.lexLt ns ms
  | _, _ => none
def cI (p : Int → Int → Bool) : D → D → Option Bool
  | .int i, .int j => some (p i j)
  | _, _ => none
def cLe : D → D → Option Bool := cI fun i j => decide (i ≤ j)
def cGt : D → D → Option Bool := cI fun i j => decide (j < i)
def cGe : D → D → Option Bool := cI fun i j => decide (j ≤ i)
def cEq : D → D → Option Bool := fun a b => if SeqAt.shaped a = true ∧ SeqAt.shaped b = true then some (PyData.eqv a b) else none
def cNe : D → D → Option Bool := fun a b => if SeqAt.shaped a = true ∧ SeqAt.shaped b = true then some (!PyData.eqv a b) else none
def cIs : D → D → Option Bool
  | .none, .none => some true
  | _, .none => some false
  | .bool a, .bool b => some (decide (a = b))
  | _, _ => none
def cIsNot : D → D → Option Bool
  | .none, .none => some false
  | _, .none => some true
  | .bool a, .bool b => some (!decide (a = b))
  | _, _ => none
section
variable {X : Cx}
theorem c2_int {op : CmpOp} {p : Int → Int → Bool} (h : OpR X (compareOp op) (rI0 fun i j => .bl (p i j))) : C2 X op (cI p) := by
  refine ⟨_, h, fun F H a b va vb k Q ha hb e q => ?_⟩
  unfold cI at e
  split at e
  · cases e
    cases ha.int_inv
    cases hb.int_inv
    exact ⟨_, _, rfl, rfl, q⟩
  · cases e
theorem c2_le : C2 X .LtE cLe := c2_int op_le
theorem c2_gt : C2 X .Gt cGt := c2_int op_gt
theorem c2_ge : C2 X .GtE cGe := c2_int op_ge
theorem c2_lt (hu : X.A.units < cLine) : C2 X .Lt cLt := by
  refine ⟨_, op_lt.or (op_ltT hu), fun F H a b va vb k Q ha hb e q => ?_⟩
  unfold cLt at e
  split at e
  · cases e
    cases ha.int_inv
    cases hb.int_inv
    exact .inl ⟨_, _, rfl, rfl, q⟩
  · obtain ⟨ns, e1, e⟩ := Option.bind_eq_some_iff.mp e
    obtain ⟨ms, e2, e⟩ := Option.map_eq_some_iff.mp e
    subst e
    obtain ⟨l, xs, rfl, h1, d1⟩ := ha.tup_inv
    obtain ⟨m, ys, rfl, h2, d2⟩ := hb.tup_inv
    rw [ints?_some e1] at d1
    rw [ints?_some e2] at d2
    rw [d1.ints] at h1
    rw [d2.ints] at h2
    exact .inr ⟨l, m, ns, ms, rfl, rfl, h1, h2, q⟩
  · cases e
theorem c2_eq (hu : X.A.units + 64 < cLine) : C2 X .Eq cEq := by
  refine ⟨_, op_eqD hu, fun F H a b va vb k Q ha hb e q => ?_⟩
  unfold cEq at e
  split at e
  · rename_i h
    cases e
    exact ⟨a, b, ha.all.dp h.1, hb.all.dp h.2, h.1, h.2, q⟩
  · cases e
theorem c2_ne (hu : X.A.units + 64 < cLine) : C2 X .NotEq cNe := by
  refine ⟨_, op_neD hu, fun F H a b va vb k Q ha hb e q => ?_⟩
  unfold cNe at e
  split at e
  · rename_i h
    cases e
    exact ⟨a, b, ha.all.dp h.1, hb.all.dp h.2, h.1, h.2, q⟩
  · cases e
theorem non_iff {K : PySem.W.Frag} {F : Rg} {H : Hp} {d : D} {v : V} (h : Dtop K F H d v) : v = .non ↔ d = .none := by
  have h := h.all
  cases h <;> simp
theorem c2_is : C2 X .Is cIs := by
  refine ⟨_, op_isN.or op_is_bl, fun F H a b va vb k Q ha hb e q => ?_⟩
  have hn := non_iff ha
  unfold cIs at e
  split at e
  · cases e
    refine .inl ⟨(non_iff hb).mpr rfl, ?_⟩
    rw [decide_eq_true (hn.mpr rfl)]
    exact q
  · rename_i z
    cases e
    refine .inl ⟨(non_iff hb).mpr rfl, ?_⟩
    rw [decide_eq_false (fun h => z (hn.mp h))]
    exact q
  · cases e
    cases ha.bool_inv
    cases hb.bool_inv
    exact .inr ⟨_, _, rfl, rfl, q⟩
  · cases e
theorem c2_isNot : C2 X .IsNot cIsNot := by
  refine ⟨_, op_notN.or op_isnot_bl, fun F H a b va vb k Q ha hb e q => ?_⟩
  have hn := non_iff ha
  unfold cIsNot at e
  split at e
  · cases e
    refine .inl ⟨(non_iff hb).mpr rfl, ?_⟩
    rw [decide_eq_true (hn.mpr rfl)]
    exact q
  · rename_i z
    cases e
    refine .inl ⟨(non_iff hb).mpr rfl, ?_⟩
    rw [decide_eq_false (fun h => z (hn.mp h))]
    exact q
  · cases e
    cases ha.bool_inv
    cases hb.bool_inv
    exact .inr ⟨_, _, rfl, rfl, q⟩
  · cases e
end
end PD
set_option Elab.async false
set_option linter.all false
set_option maxRecDepth 100000
set_option maxHeartbeats 4000000
/-! PD5: truth, and | or | not, conditional expressions, arguments, displays, subscripts, slices. -/
namespace PD
set_option autoImplicit false
open PySem PySem.Spec L2
open PyProof.Rows hiding St

/-- truth by data -/
def dTru : D → Option Bool
  | .none => some false
  | .bool b => some b
  | .int i => some (i != 0)
  | .str x => if x.length ≤ 16777216 then some ((x.length : Int) != 0) else none
  | .list xs => some (!xs.isEmpty)
  | .tuple xs => some (!xs.isEmpty)
  | .dict _ => none
section
variable {K : PySem.W.Frag} {F : Rg} {H : Hp}
theorem Dts.isEmpty {ds : List D} {vs : List V} (h : Dts K F H ds vs) : ds.isEmpty = vs.isEmpty := by
  cases h <;> rfl
theorem truV_of {d : D} {v : V} {k : Bool} (h : Dtop K F H d v) (e : dTru d = some k) : TruV K v H k := by
  cases d with
  | none => cases e; cases (show Dt K F H .none v from h); rfl
  | bool b => cases e; cases h.bool_inv; rfl
  | int i => cases e; cases h.int_inv; rfl
  | str x =>
    cases h.str_inv
    unfold dTru at e
    simp only at e
    split at e
    · rename_i hz
      cases e
      exact ⟨by rw [sizeLine_eq]; exact hz, rfl⟩
    · cases e
  | list ds =>
    cases e
    obtain ⟨a, xs, rfl, r, h⟩ := h
    exact .inl ⟨xs, .inl r, by rw [h.isEmpty]⟩
  | tuple ds =>
    cases e
    obtain ⟨a, xs, rfl, r, h⟩ := h.tup_inv
    exact .inr (.inl ⟨xs, r, by rw [h.isEmpty]⟩)
  | dict ds => cases e
end

def dTruT (fa : DE) : DT := fun ρ => (fa ρ).bind fun x => (x.1.get x.2).bind fun a => (dTru a).map fun k => (k, x.2)
def dAndT (f f' : DT) : DT := fun ρ => (f ρ).bind fun x => if x.1 = true then f' x.2 else some (false, x.2)
def dOrT (f f' : DT) : DT := fun ρ => (f ρ).bind fun x => if x.1 = true then some (true, x.2) else f' x.2
def dNotT (f : DT) : DT := fun ρ => (f ρ).map fun x => (!x.1, x.2)
/-- x and y, x or y as values: x a bool -/
def dAndV (fa fb : DE) : DE := fun ρ => (fa ρ).bind fun x => match x.1 with
  | .sh (.bool true) => fb x.2
  | .sh (.bool false) => some (.sh (.bool false), x.2)
  | _ => none
def dOrV (fa fb : DE) : DE := fun ρ => (fa ρ).bind fun x => match x.1 with
  | .sh (.bool false) => fb x.2
  | .sh (.bool true) => some (.sh (.bool true), x.2)
  | _ => none
def dNotV (fa : DE) : DE := fun ρ => (fa ρ).bind fun x => (x.1.get x.2).bind fun a => (dTru a).map fun k => (.sh (.bool (!k)), x.2)
def dIf (ft : DT) (fa fb : DE) : DE := fun ρ => (ft ρ).bind fun x => if x.1 = true then fa x.2 else fb x.2
def dNeg (fa : DE) : DE := fun ρ => (fa ρ).bind fun x => match x.1 with
  | .sh (.int i) => some (.sh (.int (-i)), x.2)
  | _ => none

section
variable {X : Cx} {pos : Pos} {a b c : Expr} {fa fb fc : DE} {ft fu : DT} {rest : List Expr}
theorem pt_tru (ha : PED X a fa) (he : ∀ whole, isTrue a X.env whole = (do let v ← whole; standAt a.pos; holding [v] (truthy v)) := by intro _; rfl) : PTD X a (dTruT fa) := fun g hg => by
  refine (pt_truth (ha g hg) he).wk fun σ H Q t => ?_
  obtain ⟨F, ρ, r, w, ρ', e, q⟩ := t
  obtain ⟨⟨x, ρ1⟩, e1, e⟩ := Option.bind_eq_some_iff.mp e
  obtain ⟨d, e2, e⟩ := Option.bind_eq_some_iff.mp e
  obtain ⟨k, e3, e⟩ := Option.map_eq_some_iff.mp e
  cases e
  exact ⟨F, ρ, r, x, ρ1, e1, fun v H1 F1 p1 => ⟨_, hg ▸ truV_of (RW.top p1.t.post.rel p1.rw e2) e3, q H1 F1 p1.t⟩⟩
theorem and_ok {g : G} {σ : St} {H : Hp} {Q : Bool → Hp → Prop} (t : tT g (dAndT ft fu) σ H Q) : tAnd (tT g ft) (tT g fu) σ H Q := by
  obtain ⟨F, ρ, r, w, ρ', e, q⟩ := t
  obtain ⟨⟨x, ρ1⟩, e1, e⟩ := Option.bind_eq_some_iff.mp e
  refine ⟨F, ρ, r, x, ρ1, e1, fun H1 F1 p1 => ?_⟩
  cases x with
  | true => exact ⟨F1, ρ1, p1.post.rel, w, ρ', e, fun H2 F2 p2 => q H2 F2 (p1.trans r p2)⟩
  | false => cases e; exact q H1 F1 p1
theorem or_ok {g : G} {σ : St} {H : Hp} {Q : Bool → Hp → Prop} (t : tT g (dOrT ft fu) σ H Q) : tOr (tT g ft) (tT g fu) σ H Q := by
  obtain ⟨F, ρ, r, w, ρ', e, q⟩ := t
  obtain ⟨⟨x, ρ1⟩, e1, e⟩ := Option.bind_eq_some_iff.mp e
  refine ⟨F, ρ, r, x, ρ1, e1, fun H1 F1 p1 => ?_⟩
  cases x with
  | false => exact ⟨F1, ρ1, p1.post.rel, w, ρ', e, fun H2 F2 p2 => q H2 F2 (p1.trans r p2)⟩
  | true => cases e; exact q H1 F1 p1
theorem pwd_and1 (ha : PTD X a ft) : PWD X (.BoolOp .And [a] pos) ft := fun g hg => pw_and1 (ha g hg)
theorem pwd_or1 (ha : PTD X a ft) : PWD X (.BoolOp .Or [a] pos) ft := fun g hg => pw_or1 (ha g hg)
theorem pwd_and (ha : PTD X a ft) (hb : PWD X (.BoolOp .And (b :: rest) pos) fu) : PWD X (.BoolOp .And (a :: b :: rest) pos) (dAndT ft fu) := fun g hg => (pw_and (ha g hg) (hb g hg)).wk fun _ _ _ => and_ok
theorem pwd_or (ha : PTD X a ft) (hb : PWD X (.BoolOp .Or (b :: rest) pos) fu) : PWD X (.BoolOp .Or (a :: b :: rest) pos) (dOrT ft fu) := fun g hg => (pw_or (ha g hg) (hb g hg)).wk fun _ _ _ => or_ok
theorem PWD.pt (h : PWD X a ft) : PTD X a ft := fun g hg => (h g hg).pt
theorem ptd_not (ha : PTD X a ft) : PTD X (.UnaryOp .Not a pos) (dNotT ft) := fun g hg => (pt_not (ha g hg)).wk fun σ H Q t => by
  obtain ⟨F, ρ, r, w, ρ', e, q⟩ := t
  obtain ⟨⟨x, ρ1⟩, e1, e⟩ := Option.map_eq_some_iff.mp e
  cases e
  exact ⟨F, ρ, r, x, ρ1, e1, fun H1 F1 p1 => q H1 F1 p1⟩
theorem sh_inv {g : G} {F : Rg} {ρ : En} {σ : St} {H : Hp} {v : V} {d : D} (h : RW g F ρ σ H v (.sh d)) : Dt g.K F H d v := h
theorem ped_and (ha : PED X a fa) (hb : PED X (.BoolOp .And (b :: rest) pos) fb) : PED X (.BoolOp .And (a :: b :: rest) pos) (dAndV fa fb) := fun g hg => (pe_and (ha g hg) (hb g hg)).wk fun σ H Q t => by
  obtain ⟨F, ρ, r, w, ρ', e, q⟩ := t
  obtain ⟨⟨x, ρ1⟩, e1, e⟩ := Option.bind_eq_some_iff.mp e
  refine ⟨F, ρ, r, x, ρ1, e1, fun v H1 F1 p1 => ?_⟩
  simp only at e
  split at e
  · cases sh_inv p1.rw
    exact ⟨true, rfl, F1, ρ1, p1.t.post.rel, w, ρ', e, fun v H2 F2 p2 => q v H2 F2 (EPo.then r p1.t p2)⟩
  · cases sh_inv p1.rw
    cases e
    exact ⟨false, rfl, q _ H1 F1 p1⟩
  · cases e
theorem ped_or (ha : PED X a fa) (hb : PED X (.BoolOp .Or (b :: rest) pos) fb) : PED X (.BoolOp .Or (a :: b :: rest) pos) (dOrV fa fb) := fun g hg => (pe_or (ha g hg) (hb g hg)).wk fun σ H Q t => by
  obtain ⟨F, ρ, r, w, ρ', e, q⟩ := t
  obtain ⟨⟨x, ρ1⟩, e1, e⟩ := Option.bind_eq_some_iff.mp e
  refine ⟨F, ρ, r, x, ρ1, e1, fun v H1 F1 p1 => ?_⟩
  simp only at e
  split at e
  · cases sh_inv p1.rw
    exact ⟨false, rfl, F1, ρ1, p1.t.post.rel, w, ρ', e, fun v H2 F2 p2 => q v H2 F2 (EPo.then r p1.t p2)⟩
  · cases sh_inv p1.rw
    cases e
    exact ⟨true, rfl, q _ H1 F1 p1⟩
  · cases e
theorem ped_one {op : BoolOp} (ha : PED X a fa) : PED X (.BoolOp op [a] pos) fa := fun g hg => pe_one (ha g hg)
theorem ped_not (ha : PED X a fa) : PED X (.UnaryOp .Not a pos) (dNotV fa) := fun g hg => (pe_notT (ha g hg)).wk fun σ H Q t => by
  obtain ⟨F, ρ, r, w, ρ', e, q⟩ := t
  obtain ⟨⟨x, ρ1⟩, e1, e⟩ := Option.bind_eq_some_iff.mp e
  obtain ⟨d, e2, e⟩ := Option.bind_eq_some_iff.mp e
  obtain ⟨k, e3, e⟩ := Option.map_eq_some_iff.mp e
  cases e
  exact ⟨F, ρ, r, x, ρ1, e1, fun v H1 F1 p1 => ⟨k, hg ▸ truV_of (RW.top p1.t.post.rel p1.rw e2) e3, q _ H1 F1 (EPo.then r p1.t (EPo.val p1.t.post.rel (.bl _)))⟩⟩
theorem ped_if (hc : PTD X c ft) (ha : PED X a fa) (hb : PED X b fb) : PED X (.IfExp c a b pos) (dIf ft fa fb) := fun g hg => (pe_ifExp (hc g hg) (ha g hg) (hb g hg)).wk fun σ H Q t => by
  obtain ⟨F, ρ, r, w, ρ', e, q⟩ := t
  obtain ⟨⟨x, ρ1⟩, e1, e⟩ := Option.bind_eq_some_iff.mp e
  refine ⟨F, ρ, r, x, ρ1, e1, fun H1 F1 p1 => ?_⟩
  cases x with
  | true =>
    rw [if_pos rfl] at e ⊢
    exact ⟨F1, ρ1, p1.post.rel, w, ρ', e, fun v H2 F2 p2 => q v H2 F2 (EPo.then r p1 p2)⟩
  | false =>
    rw [if_neg (show ¬ (false = true) from Bool.false_ne_true)] at e ⊢
    exact ⟨F1, ρ1, p1.post.rel, w, ρ', e, fun v H2 F2 p2 => q v H2 F2 (EPo.then r p1 p2)⟩
theorem ped_neg (ha : PED X a fa) : PED X (.UnaryOp .USub a pos) (dNeg fa) := fun g hg => (pe_un un_neg (ha g hg)).wk fun σ H Q t => by
  obtain ⟨F, ρ, r, w, ρ', e, q⟩ := t
  obtain ⟨⟨x, ρ1⟩, e1, e⟩ := Option.bind_eq_some_iff.mp e
  refine ⟨F, ρ, r, x, ρ1, e1, fun v H1 F1 p1 => ?_⟩
  simp only at e
  split at e
  · cases sh_inv p1.rw
    cases e
    exact ⟨_, rfl, q _ H1 F1 (EPo.then r p1.t (EPo.val p1.t.post.rel (.int _)))⟩
  · cases e
end

/-! ### several expressions in a row -/
def dNil : DA := fun ρ => some ([], ρ)
def dCons (fa : DE) (fs : DA) : DA := fun ρ => (fa ρ).bind fun x => (fs x.2).map fun y => (x.1 :: y.1, y.2)
section
variable {g : G} {F F1 F2 F' : Rg} {ρ ρ1 ρ2 ρ' : En} {σ : St} {H H1 H2 H' : Hp} {ws : List W} {vs : List V} {w : W} {v : V}
theorem APo.then (r : Rel g F ρ σ H) (p : TPo g F ρ σ H F1 ρ1 H1) (q : APo g F1 ρ1 σ H1 ws ρ2 vs F2 H2) : APo g F ρ σ H ws ρ2 vs F2 H2 :=
  ⟨p.trans r q.t, q.rw, fun i y u a h1 h2 h => by
    by_cases e : H a = none
    · exact e
    · exact absurd (q.new i y u a h1 h2 h) (p.post.there a e)⟩
theorem RW.frs (h : RW g F ρ σ H v w) {a : Addr} (f : frAt w v a) : H a ≠ none := by
  obtain ⟨⟨d, rfl⟩, rfl⟩ := f
  obtain ⟨b, e, o, _⟩ := h
  cases e
  obtain ⟨u, eu, _⟩ := o.mut
  rw [eu]
  exact fun z => nomatch z
theorem RWs.step (r : Rel g F ρ σ H) (p : TPo g F ρ σ H F' ρ' H') : ∀ {vs : List V} {ws : List W}, RWs g F ρ σ H vs ws → RWs g F' ρ' σ H' vs ws
  | _, _, .nil => .nil
  | _, _, .cons h t n => .cons (h.step r p) (RWs.step r p t) n
theorem RWs.length : ∀ {vs : List V} {ws : List W}, RWs g F ρ σ H vs ws → ws.length = vs.length
  | _, _, .nil => rfl
  | _, _, .cons _ t _ => by simp [RWs.length t]
theorem RWs.get : ∀ {vs : List V} {ws : List W} {i : Nat}, RWs g F ρ σ H vs ws → ws[i]? = some w → ∃ v, vs[i]? = some v ∧ RW g F ρ σ H v w
  | _, _, _, .nil, e => by simp at e
  | _, _, 0, .cons h _ _, e => by simp at e; subst e; exact ⟨_, rfl, h⟩
  | _, _, i + 1, .cons _ t _, e => by
    obtain ⟨v, h1, h2⟩ := RWs.get (i := i) t (by simpa using e)
    exact ⟨v, by simpa using h1, h2⟩
end
section
variable {X : Cx} {pos : Pos} {e : Expr} {es : List Expr} {fa : DE} {fs : DA}
theorem pad_nil : PAD X [] dNil := fun g hg => (pa_nil).wk fun σ H Q t => by
  obtain ⟨F, ρ, r, w, ρ', e, q⟩ := t
  cases e
  exact q _ H F ⟨TPo.refl r, .nil, fun i y u a h => by simp at h⟩
theorem pad_cons (ha : PED X e fa) (hs : PAD X es fs) (he : starEach (e :: es) X.env = (false, eval e X.env) :: starEach es X.env := by rfl) : PAD X (e :: es) (dCons fa fs) := fun g hg => (pa_cons (ha g hg) (hs g hg) he).wk fun σ H Q t => by
  obtain ⟨F, ρ, r, w, ρ', e, q⟩ := t
  obtain ⟨⟨x, ρ1⟩, e1, e⟩ := Option.bind_eq_some_iff.mp e
  obtain ⟨⟨ws, ρ2⟩, e2, e⟩ := Option.map_eq_some_iff.mp e
  cases e
  refine ⟨F, ρ, r, x, ρ1, e1, fun v H1 F1 p1 => ⟨F1, ρ1, p1.t.post.rel, ws, ρ2, e2, fun vs H2 F2 p2 => ?_⟩⟩
  have r1 := p1.t.post.rel
  refine q _ H2 F2 ⟨p1.t.trans r p2.t, .cons (p1.rw.step r1 p2.t) p2.rw fun a f i y u h1 h2 h3 => ?_, fun i y u a h1 h2 h3 => ?_⟩
  · exact p1.rw.frs f (p2.new i y u a h1 h2 h3)
  · cases i with
    | zero =>
      simp at h1 h2
      subst h1 h2
      exact p1.new a h3
    | succ i =>
      by_cases z : H a = none
      · exact z
      · exact absurd (p2.new i y u a (by simpa using h1) (by simpa using h2) h3) (p1.t.post.there a z)
end

/-! ### given away -/
def gives : List W → En → Option (List D × En)
  | [], ρ => some ([], ρ)
  | w :: ws, ρ => (w.give ρ).bind fun x => (gives ws x.2).map fun y => (x.1 :: y.1, y.2)
section
variable {g : G} {F F1 F2 F' : Rg} {ρ ρ1 ρ2 ρ' : En} {σ : St} {H H1 H2 H' : Hp}
/-- a result stays while another one is given away -/
theorem RW.ghost {w : W} {v : V} (h : RW g F ρ σ H v w) (mono : ∀ a, F a → F' a) (new : ∀ a, frAt w v a → ¬ F' a) (shr : ∀ b, OwnAt ρ' σ b → OwnAt ρ σ b) (pres : ∀ (i : Nat) (s : Sl), ρ.sl[i]? = some (some s) → ∃ s', ρ'.sl[i]? = some (some s')) : RW g F' ρ' σ H v w := by
  have k : Keeps F F' H H := ⟨mono, fun _ _ h => h, fun _ _ _ h => h, fun _ _ _ h => h⟩
  cases w with
  | sh d => exact Dt.keeps k h
  | fr d =>
    obtain ⟨a, e, o, n, no, f⟩ := h
    exact ⟨a, e, o.keeps k (fun _ h => h), new a ⟨⟨_, rfl⟩, e⟩, fun z => no (shr _ z), f⟩
  | vr i =>
    obtain ⟨e, s, q⟩ := h
    exact ⟨e, pres i s q⟩
theorem gives_ok : ∀ {ws : List W} {vs : List V} {ds : List D} {F : Rg} {ρ ρ' : En}, Rel g F ρ σ H → RWs g F ρ σ H vs ws → gives ws ρ = some (ds, ρ') →
    ∃ F', (∀ a, F a → F' a) ∧ (∀ a, F' a → F a ∨ OwnAt ρ σ a ∨ ∃ (i : Nat) (y : W) (u : V), ws[i]? = some y ∧ vs[i]? = some u ∧ frAt y u a) ∧ Rel g F' ρ' σ H ∧ Dts g.K F' H ds vs ∧
      (∀ b, OwnAt ρ' σ b → OwnAt ρ σ b) ∧ (∀ (i : Nat) (s : Sl), ρ.sl[i]? = some (some s) → ∃ s', ρ'.sl[i]? = some (some s'))
  | [], _, _, F, ρ, _, r, .nil, e => by
    cases e
    exact ⟨F, fun _ h => h, fun _ h => .inl h, r, .nil, fun _ h => h, fun _ s h => ⟨s, h⟩⟩
  | w :: ws, v :: vs, ds, F, ρ, ρ', r, .cons h t n, e => by
    obtain ⟨⟨d, ρ1⟩, e1, e⟩ := Option.bind_eq_some_iff.mp e
    obtain ⟨⟨ds', ρ2⟩, e2, e⟩ := Option.map_eq_some_iff.mp e
    cases e
    obtain ⟨F1, m1, n1, r1, d1, s1, p1, _⟩ := give_ok r h e1
    have t1 : RWs g F1 ρ1 σ H vs ws := by
      have key : ∀ {vs' : List V} {ws' : List W}, RWs g F ρ σ H vs' ws' → (∀ a, frAt w v a → ∀ (i : Nat) y u, ws'[i]? = some y → vs'[i]? = some u → ¬ frAt y u a) → RWs g F1 ρ1 σ H vs' ws' := by
        intro vs' ws' q
        induction q with
        | nil => intro _; exact .nil
        | cons h' t' n' ih =>
          intro z
          refine .cons (h'.ghost m1 (fun a f f1 => ?_) s1 p1) (ih fun a f i y u h1 h2 => z a f (i + 1) y u (by simpa using h1) (by simpa using h2)) n'
          obtain ⟨⟨d', rfl⟩, rfl⟩ := f
          obtain ⟨b, eb, o, nF, no, _⟩ := h'
          cases eb
          rcases n1 a f1 with z1 | z1 | z1
          · exact nF z1
          · exact no z1
          · exact z a z1 0 _ _ rfl rfl ⟨⟨_, rfl⟩, rfl⟩
      exact key t n
    obtain ⟨F2, m2, n2, r2, d2, s2, p2⟩ := gives_ok r1 t1 e2
    refine ⟨F2, fun a h => m2 a (m1 a h), fun a h => ?_, r2, .cons (d1.keeps ⟨m2, fun _ _ h => h, fun _ _ _ h => h, fun _ _ _ h => h⟩) d2, fun b h => s1 b (s2 b h), fun i s h => let ⟨s', h'⟩ := p1 i s h; p2 i s' h'⟩
    rcases n2 a h with z | z | ⟨i, y, u, z1, z2, z3⟩
    · rcases n1 a z with z | z | z
      · exact .inl z
      · exact .inr (.inl z)
      · exact .inr (.inr ⟨0, w, v, rfl, rfl, z⟩)
    · exact .inr (.inl (s1 a z))
    · exact .inr (.inr ⟨i + 1, y, u, by simpa using z1, by simpa using z2, z3⟩)
/-- the region grows behind an evaluation: by what is new since, by what was our own -/
theorem TPo.ghost (p : TPo g F ρ σ H F1 ρ1 H1) (r2 : Rel g F2 ρ2 σ H1) (mono : ∀ a, F1 a → F2 a) (new : ∀ a, F2 a → F1 a ∨ OwnAt ρ1 σ a ∨ H a = none) (shr : ∀ b, OwnAt ρ2 σ b → OwnAt ρ1 σ b)
    (pres : ∀ (i : Nat) (s : Sl), ρ1.sl[i]? = some (some s) → ∃ s', ρ2.sl[i]? = some (some s')) : TPo g F ρ σ H F2 ρ2 H1 :=
  ⟨⟨r2, fun a h => mono a (p.post.mono a h), p.post.kept, p.post.there, fun b h => by
    rcases new b h with z | z | z
    · exact p.post.newF b z
    · exact .inr (.inr (p.shr b z))
    · exact .inr (.inl z), fun b h => .inl (p.shr b (shr b h))⟩, fun i s h => let ⟨s', h'⟩ := p.pres i s h; pres i s' h', fun b h => p.shr b (shr b h)⟩
theorem APo.gives {ws : List W} {vs : List V} {ds : List D} (p : APo g F ρ σ H ws ρ1 vs F1 H1) (e : gives ws ρ1 = some (ds, ρ2)) : ∃ F2, TPo g F ρ σ H F2 ρ2 H1 ∧ Dts g.K F2 H1 ds vs := by
  obtain ⟨F2, m, n, r2, d, s, pr⟩ := gives_ok p.t.post.rel p.rw e
  refine ⟨F2, p.t.ghost r2 m (fun a h => ?_) s pr, d⟩
  rcases n a h with z | z | ⟨i, y, u, z1, z2, z3⟩
  · exact .inl z
  · exact .inr (.inl z)
  · exact .inr (.inr (p.new i y u a z1 z2 z3))
theorem EPo.give {w : W} {v : V} {d : D} (p : EPo g F ρ σ H w ρ1 v F1 H1) (e : w.give ρ1 = some (d, ρ2)) : ∃ F2, TPo g F ρ σ H F2 ρ2 H1 ∧ Dt g.K F2 H1 d v := by
  obtain ⟨F2, m, n, r2, d, s, pr, _⟩ := give_ok p.t.post.rel p.rw e
  refine ⟨F2, p.t.ghost r2 m (fun a h => ?_) s pr, d⟩
  rcases n a h with z | z | z
  · exact .inl z
  · exact .inr (.inl z)
  · exact .inr (.inr (p.new a z))
end

/-! ### displays -/
def dTup (fs : DA) : DE := fun ρ => (fs ρ).bind fun x => (gives x.1 x.2).bind fun y => if y.1.length ≤ 1000 then some (.sh (.tuple y.1), y.2) else none
def dLst (fs : DA) : DE := fun ρ => (fs ρ).bind fun x => (gives x.1 x.2).bind fun y => if y.1.length ≤ 1000 then some (.fr (.list y.1), y.2) else none
section
variable {X : Cx} {pos : Pos} {es : List Expr} {fs : DA}
theorem ped_tup {k : Nat} (hs : PAD X es fs) : PED X (.Tuple es k pos) (dTup fs) := fun g hg => (pe_tup (hs g hg)).wk fun σ H Q t => by
  obtain ⟨F, ρ, r, w, ρ', e, q⟩ := t
  obtain ⟨⟨ws, ρ1⟩, e1, e⟩ := Option.bind_eq_some_iff.mp e
  obtain ⟨⟨ds, ρ2⟩, e2, e⟩ := Option.bind_eq_some_iff.mp e
  split at e
  · rename_i hz
    cases e
    refine ⟨F, ρ, r, ws, ρ1, e1, fun vs H1 F1 p1 => ?_⟩
    obtain ⟨F2, p2, d⟩ := p1.gives e2
    have hl := d.length
    simp only at hz
    exact ⟨by rw [sizeLine_eq]; omega, fun p hp => q _ _ F2 (EPo.then r p2 (EPo.newTup p2.post.rel hp d))⟩
  · cases e
theorem ped_lst (hs : PAD X es fs) : PED X (.List es pos) (dLst fs) := fun g hg => (pe_lst (hs g hg)).wk fun σ H Q t => by
  obtain ⟨F, ρ, r, w, ρ', e, q⟩ := t
  obtain ⟨⟨ws, ρ1⟩, e1, e⟩ := Option.bind_eq_some_iff.mp e
  obtain ⟨⟨ds, ρ2⟩, e2, e⟩ := Option.bind_eq_some_iff.mp e
  split at e
  · rename_i hz
    cases e
    refine ⟨F, ρ, r, ws, ρ1, e1, fun vs H1 F1 p1 => ?_⟩
    obtain ⟨F2, p2, d⟩ := p1.gives e2
    have hl := d.length
    simp only at hz
    exact ⟨by rw [sizeLine_eq]; omega, fun p hp => q _ _ F2 (EPo.then r p2 (EPo.newList p2.post.rel hp d))⟩
  · cases e
end

/-! ### subscripts -/
/-- a key as data -/
def kOf : D → Option Key
  | .int i => some (.inl i)
  | .str x => some (.inr x)
  | _ => none
/-- what a dict holds at a key -/
def dLook : List (D × D) → Key → Option D
  | [], _ => none
  | (k, d) :: r, y => if kOf k = some y then some d else dLook r y
section
variable {K : PySem.W.Frag} {F : Rg} {H : Hp}
theorem kOf_kD (k : Key) : kOf (kD k) = some k := by cases k <;> rfl
theorem kOf_val {d : D} {k : Key} {v : V} (e : kOf d = some k) (h : Dtop K F H d v) : v = kV k := by
  cases d with
  | int i => cases e; exact h.int_inv
  | str x => cases e; exact h.str_inv
  | none => cases e
  | bool _ => cases e
  | list _ => cases e
  | tuple _ => cases e
  | dict _ => cases e
theorem Dkv.look : ∀ {kvs : List (D × D)} {ks : List (Key × V)} (k : Key), Dkv K F H kvs ks → (dLook kvs k = none ∧ valV ks k = none) ∨ ∃ d v, dLook kvs k = some d ∧ valV ks k = some v ∧ Dt K F H d v
  | _, _, _, .nil => .inl ⟨rfl, rfl⟩
  | _, _, k, .cons (k := k') (d := d) (v := v) (kvs := kvs) (ks := ks) h t => by
    by_cases e : k' = k
    · subst e
      refine .inr ⟨d, v, ?_, ?_, h⟩
      · rw [dLook, kOf_kD, if_pos rfl]
      · exact valV_pos rfl
    · have e1 : dLook ((kD k', d) :: kvs) k = dLook kvs k := by rw [dLook, kOf_kD, if_neg (fun z => e (Option.some.inj z))]
      have e2 : valV ((k', v) :: ks) k = valV ks k := valV_neg e
      rw [e1, e2]
      exact Dkv.look k t
theorem Dkv.length : ∀ {kvs : List (D × D)} {ks : List (Key × V)}, Dkv K F H kvs ks → kvs.length = ks.length
  | _, _, .nil => rfl
  | _, _, .cons _ t => by simp [Dkv.length t]
end
structure I2 (X : Cx) (sem : D → D → Option W) : Prop where
  ex : ∃ r, IxR X r ∧ ∀ (F : Rg) (H : Hp) (a b : D) (va vb : V) (w : W) (Q : VK), Dtop X.K F H a va → Dtop X.K F H b vb → sem a b = some w → (∀ v H', NewR X.K F H v H' w → Q v H') → r va vb H Q
def bIx : D → D → Option W
  | .list xs, .int i => (atI xs i).map .sh
  | .tuple xs, .int i => (atI xs i).map .sh
  | .str x, .int i => if x.length ≤ 16777216 then (atI x.cps.toList i).map fun c => .sh (.str ⟨#[c]⟩) else none
  | .dict kvs, k => (kOf k).bind fun y => (dLook kvs y).map .sh
  | _, _ => none
section
variable {X : Cx} {pos : Pos} {a b : Expr} {fa fb : DE}
theorem ix_dict (hu : X.A.units + 1 < cLine) : IxR X (fun x y H Q => ∃ l v, x = .ref l ∧ DGet H l y (some v) ∧ Q v H) := by
  intro value slice pins s σ H x y v u Q I rx ry ⟨l, z, hx, hg, q⟩ hs
  subst hx
  cases rx
  refine tail_any (dict_typeIs I hg) PySem.F.slot_dict_getitem.lookup ?_ hs
  exact d_getItem hu I hg ry fun w' s' I' r' => ⟨z, H, I', r', q⟩
theorem Dts.atI {K : PySem.W.Frag} {F : Rg} {H : Hp} {ds : List D} {vs : List V} {i : Int} {d : D} (h : Dts K F H ds vs) (e : L2.atI ds i = some d) : ∃ v, L2.atI vs i = some v ∧ Dt K F H d v := by
  unfold L2.atI at e ⊢
  rw [← h.length]
  obtain ⟨j, e1, e2⟩ := Option.bind_eq_some_iff.mp e
  obtain ⟨v, e3, h'⟩ := h.get e2
  exact ⟨v, by rw [e1]; exact e3, h'⟩
theorem i2_ix (hu : X.A.units + 1 < cLine) : I2 X bIx := by
  refine ⟨_, ix_list.or (ix_tup.or (ix_str.or (ix_dict hu))), fun F H a b va vb w Q ha hb e q => ?_⟩
  unfold bIx at e
  split at e
  · obtain ⟨d, e1, rfl⟩ := Option.map_eq_some_iff.mp e
    obtain ⟨l, xs, rfl, h1, d1⟩ := ha
    cases hb.int_inv
    obtain ⟨v, e2, h⟩ := d1.atI e1
    exact .inl ⟨l, xs, _, v, rfl, rfl, .inl h1, e2, q _ _ (.val h)⟩
  · obtain ⟨d, e1, rfl⟩ := Option.map_eq_some_iff.mp e
    obtain ⟨l, xs, rfl, h1, d1⟩ := ha.tup_inv
    cases hb.int_inv
    obtain ⟨v, e2, h⟩ := d1.atI e1
    exact .inr (.inl ⟨l, xs, _, v, rfl, rfl, h1, e2, q _ _ (.val h)⟩)
  · split at e
    · rename_i hz
      obtain ⟨c, e1, rfl⟩ := Option.map_eq_some_iff.mp e
      cases ha.str_inv
      cases hb.int_inv
      exact .inr (.inr (.inl ⟨_, _, c, rfl, rfl, by rw [sizeLine_eq]; exact hz, e1, q _ _ (.val (.str _))⟩))
    · cases e
  · obtain ⟨y, e1, e⟩ := Option.bind_eq_some_iff.mp e
    obtain ⟨d, e2, rfl⟩ := Option.map_eq_some_iff.mp e
    obtain ⟨l, ks, rfl, h1, d1⟩ := ha
    have := kOf_val e1 hb
    subst this
    rcases d1.look y with ⟨z, _⟩ | ⟨d', v, z1, z2, h⟩
    · rw [z] at e2; cases e2
    · rw [z1] at e2
      cases e2
      exact .inr (.inr (.inr ⟨l, v, rfl, .inl ⟨ks, y, h1, rfl, z2.symm⟩, q _ _ (.val h)⟩))
  · cases e
theorem ped_ix (hu : X.A.units + 1 < cLine) (ha : PED X a fa) (hb : PED X b fb) (hs : PlainIx b := by exact fun _ _ => rfl) : PED X (.Subscript a b pos) (dBin bIx fa fb) := fun g hg => by
  obtain ⟨r, hr, hq⟩ := (i2_ix hu).ex
  refine (pe_ix hr (ha g hg) (hb g hg) hs).wk fun σ H Q t => ?_
  exact two t fun F ρ H2 da db va vb w r2 ta tb e q => hq F H2 da db va vb w Q (hg ▸ ta) (hg ▸ tb) e fun v H' n => q v H' (hg ▸ n)
end

/-! ### slices -/
abbrev DO := En → Option (Option Int × En)
def dNo : DO := fun ρ => some (none, ρ)
def dPart (fa : DE) : DO := fun ρ => (fa ρ).bind fun x => match x.1 with
  | .sh (.int i) => some (some i, x.2)
  | _ => none
def tO (g : G) (f : DO) : TO := fun σ H Q => ∃ F ρ, Rel g F ρ σ H ∧ ∃ b ρ', f ρ = some (b, ρ') ∧ ∀ H' F', TPo g F ρ σ H F' ρ' H' → Q b H'
def POD (X : Cx) (e : Option Expr) (f : DO) : Prop := ∀ g : G, g.K = X.K → PO X e (tO g f)
def cutD (xs : List D) (lo hi : Option Int) : List D := (xs.drop (HT.sIx xs.length 0 lo)).take (HT.sIx xs.length xs.length hi - HT.sIx xs.length 0 lo)
def bCut : D → Option Int → Option Int → Option W
  | .list xs, lo, hi => some (.fr (.list (cutD xs lo hi)))
  | .tuple xs, lo, hi => some (.sh (.tuple (cutD xs lo hi)))
  | _, _, _ => none
def dCut (fa : DE) (fl fu : DO) : DE := fun ρ => (fa ρ).bind fun x => (fl x.2).bind fun l => (fu l.2).bind fun u => (x.1.get u.2).bind fun a => (bCut a l.1 u.1).map fun w => (w, u.2)
section
variable {X : Cx} {pos p2 : Pos} {a : Expr} {lo hi : Option Expr} {fa : DE} {fl fu : DO}
theorem _root_.L2.PO.wk {X : Cx} {e : Option Expr} {t t' : TO} (h : PO X e t) (hi : ∀ σ H Q, t' σ H Q → t σ H Q) : PO X e t' := ⟨fun pins s σ H Q I q => h.run pins s σ H Q I (hi σ H Q q)⟩
theorem pod_none : POD X none dNo := fun g hg => po_none.wk fun σ H Q t => by
  obtain ⟨F, ρ, r, w, ρ', e, q⟩ := t
  cases e
  exact q H F (TPo.refl r)
theorem pod_some (ha : PED X a fa) : POD X (some a) (dPart fa) := fun g hg => (po_some (ha g hg)).wk fun σ H Q t => by
  obtain ⟨F, ρ, r, w, ρ', e, q⟩ := t
  obtain ⟨⟨x, ρ1⟩, e1, e⟩ := Option.bind_eq_some_iff.mp e
  refine ⟨F, ρ, r, x, ρ1, e1, fun v H1 F1 p1 => ?_⟩
  simp only at e
  split at e
  · cases sh_inv p1.rw
    cases e
    exact ⟨_, rfl, q H1 F1 p1.t⟩
  · cases e
theorem Dts.cut {K : PySem.W.Frag} {F : Rg} {H : Hp} {ds : List D} {vs : List V} (h : Dts K F H ds vs) (lo hi : Option Int) : Dts K F H (cutD ds lo hi) (cutV vs lo hi) := by
  unfold cutD cutV
  rw [h.length]
  exact (h.drop _).take _
theorem ped_cut (ha : PED X a fa) (hl : POD X lo fl) (hu : POD X hi fu) : PED X (.Subscript a (.Slice lo hi none p2) pos) (dCut fa fl fu) := fun g hg => by
  refine (pe_slice (sl_list.or sl_tupA) (ha g hg) (hl g hg) (hu g hg)).wk fun σ H Q t => ?_
  obtain ⟨F, ρ, r, w, ρ', e, q⟩ := t
  obtain ⟨⟨x, ρ1⟩, e1, e⟩ := Option.bind_eq_some_iff.mp e
  obtain ⟨⟨l, ρ2⟩, e2, e⟩ := Option.bind_eq_some_iff.mp e
  obtain ⟨⟨u, ρ3⟩, e3, e⟩ := Option.bind_eq_some_iff.mp e
  obtain ⟨d, e4, e⟩ := Option.bind_eq_some_iff.mp e
  obtain ⟨w', e5, e⟩ := Option.map_eq_some_iff.mp e
  cases e
  refine ⟨F, ρ, r, x, ρ1, e1, fun v H1 F1 p1 => ⟨F1, ρ1, p1.t.post.rel, l, ρ2, e2, fun H2 F2 p2 => ⟨F2, ρ2, p2.post.rel, u, ρ3, e3, fun H3 F3 p3 => ?_⟩⟩⟩
  have r1 := p1.t.post.rel
  have p23 := p2.trans r1 p3
  have r3 := p3.post.rel
  have tp := RW.top r3 (p1.rw.step r1 p23) e4
  have fin : ∀ v' H', NewR g.K F3 H3 v' H' w → Q v' H' := fun v' H' n => q v' H' F3 (EPo.then r (p1.t.trans r p23) (n.epo r3))
  unfold bCut at e5
  split at e5
  · cases e5
    obtain ⟨b, xs, rfl, h1, d1⟩ := tp
    exact .inl ⟨b, xs, rfl, .inl h1, fun p hp => fin _ _ (.lst hp (d1.cut l u))⟩
  · cases e5
    obtain ⟨b, xs, rfl, h1, d1⟩ := tp.tup_inv
    refine .inr ⟨b, xs, rfl, hg ▸ h1, fun z => fin _ _ (.val (.tup h1 ?_)), fun _ p hp => fin _ _ (.tup hp (d1.cut l u))⟩
    have hc : cutV xs l u = xs := by
      unfold cutV
      rw [z.1, z.2, List.drop_zero, Nat.sub_zero, List.take_length]
    have := d1.cut l u
    rw [hc] at this
    exact this
  · cases e5
end
end PD
set_option Elab.async false
set_option linter.all false
set_option maxRecDepth 100000
set_option maxHeartbeats 4000000
/-! PD6: targets, statements, blocks. -/
namespace PD
set_option autoImplicit false
open PySem PySem.Spec L2
open PyProof.Rows hiding St

/-! ### slots stored -/
def En.set (ρ : En) (i : Nat) (s : Sl) : Option En := if (ρ.cup = true ∧ i = 0) ∨ ¬ i < ρ.sl.length then none else some { ρ with sl := ρ.sl.set i (some s) }
section
variable {g : G} {F F1 F2 F' : Rg} {ρ ρ1 ρ2 ρ' : En} {σ σ' : St} {H H1 H2 H' : Hp} {d : D} {v : V} {i : Nat} {a : Addr}
theorem En.set_some {s : Sl} (e : ρ.set i s = some ρ') : ¬ (ρ.cup = true ∧ i = 0) ∧ i < ρ.sl.length ∧ ρ' = { ρ with sl := ρ.sl.set i (some s) } := by
  unfold En.set at e
  split at e
  · cases e
  · rename_i h
    cases e
    exact ⟨fun z => h (.inl z), Classical.byContradiction fun z => h (.inr z), rfl⟩
theorem set_lookσ {x : Option V} {j : Nat} {y : Option V} (h : (σ.set i x)[j]? = some y) : (i = j ∧ y = x) ∨ (i ≠ j ∧ σ[j]? = some y) := by
  by_cases e : i = j
  · subst e
    by_cases hl : i < σ.length
    · rw [List.getElem?_set_self hl] at h
      exact .inl ⟨rfl, (Option.some.inj h).symm⟩
    · rw [List.getElem?_eq_none (by simpa using hl)] at h
      cases h
  · rw [List.getElem?_set_ne e] at h
    exact .inr ⟨e, h⟩
theorem ownAt_set {s : Option Sl} {x : Option V} {b : Addr} (h : OwnAt { ρ with sl := ρ.sl.set i s } (σ.set i x) b) : ((∃ d, s = some (.own d)) ∧ x = some (.ref b)) ∨ OwnAt ρ σ b := by
  obtain ⟨j, d, e1, e2⟩ := h
  rcases set_at e1 with ⟨rfl, q, hl⟩ | ⟨ne, e1⟩
  · rcases set_lookσ e2 with ⟨_, z⟩ | ⟨z, _⟩
    · exact .inl ⟨⟨d, q.symm⟩, z.symm⟩
    · exact absurd rfl z
  · rcases set_lookσ e2 with ⟨z, _⟩ | ⟨_, e2⟩
    · exact absurd z ne
    · exact .inr ⟨j, d, e1, e2⟩
theorem set_core {s : Sl} (r : Rel g F ρ σ H) (hc : ¬ (ρ.cup = true ∧ i = 0)) (hi : i < ρ.sl.length)
    (hs : match s with
      | .sh d => Dt g.K F H d v
      | .own d => ∃ a, v = .ref a ∧ Mo g.K F H d a ∧ ¬ F a ∧ ¬ OwnAt ρ σ a ∧ g.H0 a = none) : Rel g F { ρ with sl := ρ.sl.set i (some s) } (σ.set i (some v)) H := by
  have hiσ : i < σ.length := by rw [← r.len]; exact hi
  refine ⟨by simpa using r.len, fun j d e => ?_, fun j d e => ?_, fun j k d1 d2 a h1 h2 h3 h4 => ?_, fun h => ?_, r.cupF, r.F0, r.Fn, r.Fs, r.base⟩
  · rcases set_at e with ⟨rfl, q, _⟩ | ⟨ne, e⟩
    · cases q
      exact ⟨v, List.getElem?_set_self hiσ, hs⟩
    · obtain ⟨u, e1, h⟩ := r.sh j d e
      exact ⟨u, by rw [List.getElem?_set_ne ne]; exact e1, h⟩
  · rcases set_at e with ⟨rfl, q, _⟩ | ⟨ne, e⟩
    · cases q
      obtain ⟨a, rfl, o, n, _, f⟩ := hs
      exact ⟨a, List.getElem?_set_self hiσ, o, n, .inl f⟩
    · obtain ⟨a, e1, h⟩ := r.own j d e
      exact ⟨a, by rw [List.getElem?_set_ne ne]; exact e1, h⟩
  · rcases set_at h1 with ⟨rfl, q1, _⟩ | ⟨n1, k1⟩
    · rcases set_at h2 with ⟨rfl, q2, _⟩ | ⟨n2, k2⟩
      · rfl
      · cases q1
        obtain ⟨b, rfl, o, n, no, f⟩ := hs
        rw [List.getElem?_set_self hiσ] at h3
        cases h3
        rw [List.getElem?_set_ne n2] at h4
        exact absurd ⟨k, d2, k2, h4⟩ no
    · rcases set_at h2 with ⟨rfl, q2, _⟩ | ⟨n2, k2⟩
      · cases q2
        obtain ⟨b, rfl, o, n, no, f⟩ := hs
        rw [List.getElem?_set_self hiσ] at h4
        cases h4
        rw [List.getElem?_set_ne n1] at h3
        exact absurd ⟨j, d1, k1, h3⟩ no
      · rw [List.getElem?_set_ne n1] at h3
        rw [List.getElem?_set_ne n2] at h4
        exact r.dist j k d1 d2 a k1 k2 h3 h4
  · obtain ⟨c, d, c1, c2, c3⟩ := r.cupT h
    have ne : i ≠ 0 := fun z => hc ⟨h, z⟩
    exact ⟨c, d, c1, by rw [List.getElem?_set_ne ne]; exact c2, by show (ρ.sl.set i (some s))[0]? = _; rw [List.getElem?_set_ne ne]; exact c3⟩
theorem Rel.setSh (r : Rel g F ρ σ H) (h : Dt g.K F H d v) (e : ρ.set i (.sh d) = some ρ') : Rel g F ρ' (σ.set i (some v)) H ∧ ∀ b, OwnAt ρ' (σ.set i (some v)) b → OwnAt ρ σ b := by
  obtain ⟨hc, hi, rfl⟩ := En.set_some e
  refine ⟨set_core r hc hi h, fun b o => ?_⟩
  rcases ownAt_set o with ⟨⟨d, z⟩, _⟩ | z
  · cases z
  · exact z
theorem Rel.setFr (r : Rel g F ρ σ H) (h : ∃ a, v = .ref a ∧ Mo g.K F H d a ∧ ¬ F a ∧ ¬ OwnAt ρ σ a ∧ g.H0 a = none) (e : ρ.set i (.own d) = some ρ') : Rel g F ρ' (σ.set i (some v)) H ∧ ∀ b, OwnAt ρ' (σ.set i (some v)) b → OwnAt ρ σ b ∨ v = .ref b := by
  obtain ⟨hc, hi, rfl⟩ := En.set_some e
  refine ⟨set_core r hc hi h, fun b o => ?_⟩
  rcases ownAt_set o with ⟨_, z⟩ | z
  · exact .inr (Option.some.inj z)
  · exact .inl z
end

/-! ### statements -/
inductive Fl where
  | nx (ρ : En) | rt (w : W) (ρ : En) | bk (ρ : En) | ct (ρ : En)
abbrev DS := En → Option Fl
def SPo (g : G) (F : Rg) (ρ : En) (σ : St) (H : Hp) (D : Ends) : Fl → Prop
  | .nx ρ' => ∀ σ' H' F', Post g F ρ σ H F' ρ' σ' H' → D.nx σ' H'
  | .bk ρ' => ∀ σ' H' F', Post g F ρ σ H F' ρ' σ' H' → D.bk σ' H'
  | .ct ρ' => ∀ σ' H' F', Post g F ρ σ H F' ρ' σ' H' → D.ct σ' H'
  | .rt w ρ' => ∀ v σ' H' F', Post g F ρ σ H F' ρ' σ' H' → RW g F' ρ' σ' H' v w → D.rt v H'
def tS (g : G) (f : DS) : TS := fun D σ H => ∃ F ρ, Rel g F ρ σ H ∧ ∃ fl, f ρ = some fl ∧ SPo g F ρ σ H D fl
def PSD (X : Cx) (st : Stmt) (f : DS) : Prop := ∀ g : G, g.K = X.K → PS X st (tS g f)
def PSsD (X : Cx) (st : List Stmt) (f : DS) : Prop := ∀ g : G, g.K = X.K → PSs X st (tS g f)
section
variable {g : G} {F F1 F2 F' : Rg} {ρ ρ1 ρ2 ρ' : En} {σ σ1 σ' : St} {H H1 H2 H' : Hp} {E : Ends} {fl : Fl}
/-- the same end, told from an earlier state -/
theorem SPo.from (r : Rel g F ρ σ H) (p : Post g F ρ σ H F1 ρ1 σ1 H1) (h : SPo g F ρ σ H E fl) : SPo g F1 ρ1 σ1 H1 E fl := by
  cases fl with
  | nx ρ' => exact fun σ' H' F' q => h σ' H' F' (p.trans r q)
  | bk ρ' => exact fun σ' H' F' q => h σ' H' F' (p.trans r q)
  | ct ρ' => exact fun σ' H' F' q => h σ' H' F' (p.trans r q)
  | rt w ρ' => exact fun v σ' H' F' q => h v σ' H' F' (p.trans r q)
end
def dNx : DS := fun ρ => some (.nx ρ)
def dSeq (f1 f2 : DS) : DS := fun ρ => (f1 ρ).bind fun fl => match fl with
  | .nx ρ1 => f2 ρ1
  | fl => some fl
def dIfS (ft : DT) (f1 f2 : DS) : DS := fun ρ => (ft ρ).bind fun x => if x.1 = true then f1 x.2 else f2 x.2
def dRet (fa : DE) : DS := fun ρ => (fa ρ).map fun x => .rt x.1 x.2
def dRetN : DS := fun ρ => some (.rt (.sh .none) ρ)
def dBk : DS := fun ρ => some (.bk ρ)
def dCt : DS := fun ρ => some (.ct ρ)
def dDrop (fa : DE) : DS := fun ρ => (fa ρ).map fun x => .nx x.2
/-- a statement that is never reached -/
def dNever : DS := fun _ => none
section
variable {X : Cx} {pos : Pos} {st : Stmt} {rest : List Stmt} {e c : Expr} {f1 f2 : DS} {fa : DE} {ft : DT}
theorem pssd_nil : PSsD X [] dNx := fun g hg => pss_nil.wk fun E σ H t => by
  obtain ⟨F, ρ, r, fl, e, q⟩ := t
  cases e
  exact q σ H F (Post.refl r)
theorem pssd_cons (h1 : PSD X st f1) (h2 : PSsD X rest f2) : PSsD X (st :: rest) (dSeq f1 f2) := fun g hg => (pss_cons (h1 g hg) (h2 g hg)).wk fun E σ H t => by
  obtain ⟨F, ρ, r, fl, e, q⟩ := t
  obtain ⟨fl1, e1, e⟩ := Option.bind_eq_some_iff.mp e
  refine ⟨F, ρ, r, fl1, e1, ?_⟩
  cases fl1 with
  | nx ρ1 => exact fun σ1 H1 F1 p1 => ⟨F1, ρ1, p1.rel, fl, e, q.from r p1⟩
  | bk ρ1 => cases e; exact q
  | ct ρ1 => cases e; exact q
  | rt w ρ1 => cases e; exact q
theorem pssd_one (h1 : PSD X st f1) : PSsD X [st] f1 := fun g hg => pss_one (h1 g hg)
theorem psd_if {a b : List Stmt} (hc : PTD X c ft) (ha : PSsD X a f1) (hb : PSsD X b f2) : PSD X (.If c a b pos) (dIfS ft f1 f2) := fun g hg => (ps_if (hc g hg) (ha g hg) (hb g hg)).wk fun E σ H t => by
  obtain ⟨F, ρ, r, fl, e, q⟩ := t
  obtain ⟨⟨x, ρ1⟩, e1, e⟩ := Option.bind_eq_some_iff.mp e
  refine ⟨F, ρ, r, x, ρ1, e1, fun H1 F1 p1 => ?_⟩
  cases x with
  | true =>
    rw [if_pos rfl] at e ⊢
    exact ⟨F1, ρ1, p1.post.rel, fl, e, q.from r p1.post⟩
  | false =>
    rw [if_neg (show ¬ (false = true) from Bool.false_ne_true)] at e ⊢
    exact ⟨F1, ρ1, p1.post.rel, fl, e, q.from r p1.post⟩
theorem psd_ret (ha : PED X e fa) : PSD X (.Return (some e) pos) (dRet fa) := fun g hg => (ps_ret (ha g hg)).wk fun E σ H t => by
  obtain ⟨F, ρ, r, fl, e, q⟩ := t
  obtain ⟨⟨x, ρ1⟩, e1, e⟩ := Option.map_eq_some_iff.mp e
  cases e
  exact ⟨F, ρ, r, x, ρ1, e1, fun v H1 F1 p1 => q v σ H1 F1 p1.t.post p1.rw⟩
theorem psd_retN : PSD X (.Return none pos) dRetN := fun g hg => ps_retN.wk fun E σ H t => by
  obtain ⟨F, ρ, r, fl, e, q⟩ := t
  cases e
  exact q .non σ H F (Post.refl r) Dt.non
theorem psd_pass : PSD X (.Pass pos) dNx := fun g hg => ps_pass.wk fun E σ H t => by
  obtain ⟨F, ρ, r, fl, e, q⟩ := t
  cases e
  exact q σ H F (Post.refl r)
theorem psd_break : PSD X (.Break pos) dBk := fun g hg => ps_break.wk fun E σ H t => by
  obtain ⟨F, ρ, r, fl, e, q⟩ := t
  cases e
  exact q σ H F (Post.refl r)
theorem psd_continue : PSD X (.Continue pos) dCt := fun g hg => ps_continue.wk fun E σ H t => by
  obtain ⟨F, ρ, r, fl, e, q⟩ := t
  cases e
  exact q σ H F (Post.refl r)
theorem psd_expr (ha : PED X e fa) (hs : swapsWith e none pos.line X.env = pure false := by rfl) : PSD X (.Expr e pos) (dDrop fa) := fun g hg => (ps_expr (ha g hg) hs).wk fun E σ H t => by
  obtain ⟨F, ρ, r, fl, e, q⟩ := t
  obtain ⟨⟨x, ρ1⟩, e1, e⟩ := Option.map_eq_some_iff.mp e
  cases e
  exact ⟨F, ρ, r, x, ρ1, e1, fun v H1 F1 p1 => q σ H1 F1 p1.t.post⟩
theorem psd_never : PSD X st dNever := fun g hg => ps_never.wk fun E σ H t => by
  obtain ⟨F, ρ, r, fl, e, q⟩ := t
  cases e
end

/-! ### targets -/
abbrev DG := D → En → Option En
abbrev DGs := List D → En → Option En
/-- only the slots at is have changed -/
def Only (is : List Nat) (σ σ' : St) : Prop := ∀ vs : List Nat, (∀ i ∈ is, i ∈ vs) → wipe σ' vs = wipe σ vs
/-- the other slots are still there -/
def Pres (is : List Nat) (ρ ρ' : En) : Prop := ∀ (i : Nat) (s : Sl), i ∉ is → ρ.sl[i]? = some (some s) → ∃ s', ρ'.sl[i]? = some (some s')
def tG (g : G) (f : DG) (is : List Nat) : TG := fun v σ H Q => ∃ F ρ d, Rel g F ρ σ H ∧ Dt g.K F H d v ∧ ∃ ρ', f d ρ = some ρ' ∧ ∀ σ', Rel g F ρ' σ' H → (∀ b, OwnAt ρ' σ' b → OwnAt ρ σ b) → Only is σ σ' → Pres is ρ ρ' → Q σ' H
def tGs (g : G) (f : DGs) (is : List Nat) : TGs := fun vs σ H Q => ∃ F ρ ds, Rel g F ρ σ H ∧ Dts g.K F H ds vs ∧ ∃ ρ', f ds ρ = some ρ' ∧ ∀ σ', Rel g F ρ' σ' H → (∀ b, OwnAt ρ' σ' b → OwnAt ρ σ b) → Only is σ σ' → Pres is ρ ρ' → Q σ' H
def PGD (X : Cx) (e : Expr) (f : DG) (is : List Nat) : Prop := ∀ g : G, g.K = X.K → PG X e (tG g f is)
def PGsD (X : Cx) (es : List Expr) (f : DGs) (is : List Nat) : Prop := ∀ g : G, g.K = X.K → PGs X es (tGs g f is)
theorem _root_.L2.PG.wk {X : Cx} {e : Expr} {t t' : TG} (h : PG X e t) (hi : ∀ v σ H Q, t' v σ H Q → t v σ H Q) : PG X e t' := ⟨fun pins s σ H v u Q I r q => h.run pins s σ H v u Q I r (hi v σ H Q q)⟩
theorem _root_.L2.PGs.wk {X : Cx} {e : List Expr} {t t' : TGs} (h : PGs X e t) (hi : ∀ v σ H Q, t' v σ H Q → t v σ H Q) : PGs X e t' := ⟨fun pins s σ H v u Q I r q => h.run pins s σ H v u Q I r (hi v σ H Q q)⟩
theorem wipe_set {σ : St} {i : Nat} {x : Option V} : ∀ {vs : List Nat}, i ∈ vs → wipe (σ.set i x) vs = wipe σ vs
  | v :: vs, h => by
    unfold wipe
    by_cases e : v = i
    · subst e
      by_cases m : v ∈ vs
      · rw [wipe_set m]
      · have key : ∀ (vs : List Nat), v ∉ vs → wipe (σ.set v x) vs = (wipe σ vs).set v x := by
          intro vs
          induction vs with
          | nil => intro _; rfl
          | cons w ws ih =>
            intro hn
            unfold wipe
            rw [ih (fun z => hn (List.mem_cons_of_mem _ z)), List.set_comm _ _ (fun z => hn (by rw [z]; exact List.mem_cons_self))]
        rw [key vs m, List.set_set]
    · have m : i ∈ vs := by
        rcases List.mem_cons.mp h with z | z
        · exact absurd z.symm e
        · exact z
      rw [wipe_set m]
theorem only_set {σ : St} {i : Nat} {x : Option V} : Only [i] σ (σ.set i x) := fun vs h => wipe_set (h i (by simp))
def gN (i : Nat) : DG := fun d ρ => ρ.set i (.sh d)
def gNil : DGs := fun ds ρ => match ds with
  | [] => some ρ
  | _ => none
def gCons (f : DG) (fs : DGs) : DGs := fun ds ρ => match ds with
  | d :: ds => (f d ρ).bind fun ρ1 => fs ds ρ1
  | _ => none
def gTup (n : Nat) (fs : DGs) : DG := fun d ρ => match d with
  | .tuple ds => if ds.length = n then fs ds ρ else none
  | _ => none
section
variable {X : Cx} {pos : Pos} {e : Expr} {es : List Expr} {f : DG} {fs : DGs} {is js : List Nat}
theorem pgd_name {i : Nat} {x : Str} (h : PG X (.Name x pos) (gName i)) : PGD X (.Name x pos) (gN i) [i] := fun g hg => h.wk fun v σ H Q t => by
  obtain ⟨F, ρ, d, r, h, ρ', e, q⟩ := t
  obtain ⟨r', o⟩ := r.setSh h e
  obtain ⟨_, _, rfl⟩ := En.set_some e
  exact q _ r' o only_set fun j s hj e => ⟨s, by show (ρ.sl.set i _)[j]? = _; rw [List.getElem?_set_ne (fun z => hj (by simp [z]))]; exact e⟩
theorem pgsd_nil : PGsD X [] gNil [] := fun g hg => pgs_nil.wk fun v σ H Q t => by
  obtain ⟨F, ρ, ds, r, h, ρ', e, q⟩ := t
  cases h with
  | nil => cases e; exact ⟨rfl, q _ r (fun _ h => h) (fun vs _ => rfl) fun _ s _ e => ⟨s, e⟩⟩
  | cons _ _ => cases e
theorem pgsd_cons (h1 : PGD X e f is) (h2 : PGsD X es fs js) (hs : (assignEach (e :: es) X.env).map (·.2) = assign e X.env :: (assignEach es X.env).map (·.2) := by rfl) : PGsD X (e :: es) (gCons f fs) (is ++ js) := fun g hg => (pgs_cons (h1 g hg) (h2 g hg) hs).wk fun v σ H Q t => by
  obtain ⟨F, ρ, ds, r, h, ρ', e, q⟩ := t
  cases h with
  | nil => cases e
  | cons h t =>
    obtain ⟨ρ1, e1, e2⟩ := Option.bind_eq_some_iff.mp e
    refine ⟨_, _, rfl, F, ρ, _, r, h, ρ1, e1, fun σ1 r1 o1 y1 z1 => ⟨F, ρ1, _, r1, t, ρ', e2, fun σ2 r2 o2 y2 z2 => q σ2 r2 (fun b z => o1 b (o2 b z)) (fun vs hv => ?_) fun i s hi e => ?_⟩⟩
    · rw [y2 vs (fun i hi => hv i (List.mem_append_right _ hi)), y1 vs (fun i hi => hv i (List.mem_append_left _ hi))]
    · obtain ⟨s1, e1⟩ := z1 i s (fun m => hi (List.mem_append_left _ m)) e
      exact z2 i s1 (fun m => hi (List.mem_append_right _ m)) e1
theorem pgd_tup {k n : Nat} (hc : X.calm = true) (h : PGsD X es fs is) (hn : (assignEach es X.env).length = n := by rfl) (hst : (assignEach es X.env).findIdx? (·.1) = none := by rfl) : PGD X (.Tuple es k pos) (gTup n fs) is := fun g hg => (pg_tup hc (h g hg) hn hst).wk fun v σ H Q t => by
  obtain ⟨F, ρ, d, r, h, ρ', e, q⟩ := t
  unfold gTup at e
  split at e
  · split at e
    · rename_i ds hl
      cases h with
      | tup h1 d1 => exact ⟨_, _, rfl, hg ▸ h1, by rw [← d1.length]; exact hl, F, ρ, ds, r, d1, ρ', e, q⟩
    · cases e
  · cases e
end

/-! ### assignments -/
/-- results that name a slot are given away ahead of the stores -/
def settle : List W → En → Option (List W × En)
  | [], ρ => some ([], ρ)
  | .vr i :: ws, ρ => ((W.vr i).give ρ).bind fun x => (settle ws x.2).map fun y => (.sh x.1 :: y.1, y.2)
  | w :: ws, ρ => (settle ws ρ).map fun y => (w :: y.1, y.2)
/-- a settled result is stored -/
def En.put (ρ : En) (i : Nat) : W → Option En
  | .sh d => ρ.set i (.sh d)
  | .fr d => ρ.set i (.own d)
  | .vr _ => none
def puts : List Nat → List W → En → Option En
  | [], [], ρ => some ρ
  | i :: is, w :: ws, ρ => (ρ.put i w).bind fun ρ1 => puts is ws ρ1
  | _, _, _ => none
section
variable {g : G} {F F1 F2 F' : Rg} {ρ ρ1 ρ2 ρ' : En} {σ σ1 σ' : St} {H H1 H2 H' : Hp}
def noVr : W → Prop
  | .vr _ => False
  | _ => True
/-- settled results -/
def Settled (g : G) (σ : St) (H : Hp) (ws : List W) (vs : List V) (us : List W) (F : Rg) (ρ ρ' : En) : Prop :=
    ∃ F' : Rg, (∀ a, F a → F' a) ∧ (∀ a, F' a → F a ∨ OwnAt ρ σ a) ∧ Rel g F' ρ' σ H ∧ RWs g F' ρ' σ H vs us ∧ (∀ u ∈ us, noVr u) ∧ (∀ b, OwnAt ρ' σ b → OwnAt ρ σ b) ∧
      (∀ (i : Nat) (s : Sl), ρ.sl[i]? = some (some s) → ∃ s', ρ'.sl[i]? = some (some s')) ∧ (∀ (i : Nat) (y : W) (u : V) (a : Addr), us[i]? = some y → vs[i]? = some u → frAt y u a → ∃ z, ws[i]? = some z ∧ frAt z u a)
theorem settle_ok : ∀ {ws : List W} {vs : List V} {us : List W} {F : Rg} {ρ ρ' : En}, Rel g F ρ σ H → RWs g F ρ σ H vs ws → settle ws ρ = some (us, ρ') → Settled g σ H ws vs us F ρ ρ'
  | [], _, us, F, ρ, ρ', r, .nil, e => by
    cases e
    exact ⟨F, fun _ h => h, fun _ h => .inl h, r, .nil, fun u hu => by simp at hu, fun _ h => h, fun _ s h => ⟨s, h⟩, fun i y u a h => by simp at h⟩
  | w :: ws, v :: vs, us, F, ρ, ρ', r, .cons h t n, e => by
    have easy : noVr w → (∃ y, settle ws ρ = some y ∧ us = w :: y.1 ∧ ρ' = y.2) → Settled g σ H (w :: ws) (v :: vs) us F ρ ρ' := fun nv hy => by
      obtain ⟨⟨us', ρ2⟩, e2, rfl, rfl⟩ := hy
      obtain ⟨F2, m2, n2, r2, t2, v2, s2, p2, c2⟩ := settle_ok r t e2
      refine ⟨F2, m2, n2, r2, .cons (h.ghost m2 (fun a f f2 => ?_) s2 p2) t2 (fun a f i y u h1 h2 h3 => ?_), fun u hu => ?_, s2, p2, fun i y u a h1 h2 h3 => ?_⟩
      · obtain ⟨⟨d', rfl⟩, rfl⟩ := f
        obtain ⟨b, eb, o, nF, no, _⟩ := h
        cases eb
        rcases n2 a f2 with z | z
        · exact nF z
        · exact no z
      · obtain ⟨z, z1, z2⟩ := c2 i y u a h1 h2 h3
        exact n a f i z u z1 h2 z2
      · rcases List.mem_cons.mp hu with rfl | hu
        · exact nv
        · exact v2 u hu
      · cases i with
        | zero =>
          simp at h1 h2
          subst h1 h2
          exact ⟨w, rfl, h3⟩
        | succ i => exact c2 i y u a (by simpa using h1) (by simpa using h2) h3
    cases w with
    | sh d =>
      refine easy trivial ?_
      obtain ⟨y, e1, e2⟩ := Option.map_eq_some_iff.mp e
      cases e2
      exact ⟨y, e1, rfl, rfl⟩
    | fr d =>
      refine easy trivial ?_
      obtain ⟨y, e1, e2⟩ := Option.map_eq_some_iff.mp e
      cases e2
      exact ⟨y, e1, rfl, rfl⟩
    | vr j =>
      obtain ⟨⟨d, ρ1⟩, e1, e⟩ := Option.bind_eq_some_iff.mp e
      obtain ⟨⟨us', ρ2⟩, e2, e⟩ := Option.map_eq_some_iff.mp e
      cases e
      obtain ⟨F1, m1, n1, r1, d1, s1, p1, _⟩ := give_ok r h e1
      have n1' : ∀ a, F1 a → F a ∨ OwnAt ρ σ a := fun a f => by
        rcases n1 a f with z | z | ⟨⟨_, z⟩, _⟩
        · exact .inl z
        · exact .inr z
        · cases z
      have t1 : RWs g F1 ρ1 σ H vs ws := by
        have key : ∀ {vs' : List V} {ws' : List W}, RWs g F ρ σ H vs' ws' → RWs g F1 ρ1 σ H vs' ws' := by
          intro vs' ws' q
          induction q with
          | nil => exact .nil
          | cons h' t' n' ih =>
            refine .cons (h'.ghost m1 (fun a f f1 => ?_) s1 p1) ih n'
            obtain ⟨⟨d', rfl⟩, rfl⟩ := f
            obtain ⟨b, eb, o, nF, no, _⟩ := h'
            cases eb
            rcases n1' a f1 with z1 | z1
            · exact nF z1
            · exact no z1
        exact key t
      obtain ⟨F2, m2, n2, r2, t2, v2, s2, p2, c2⟩ := settle_ok r1 t1 e2
      refine ⟨F2, fun a z => m2 a (m1 a z), fun a z => ?_, r2, .cons (Dt.keeps ⟨m2, fun _ _ h => h, fun _ _ _ h => h, fun _ _ _ h => h⟩ d1) t2 (fun a f => by obtain ⟨⟨_, z⟩, _⟩ := f; cases z), fun u hu => ?_, fun b z => s1 b (s2 b z), fun i s z => let ⟨s', z'⟩ := p1 i s z; p2 i s' z', fun i y u a h1 h2 h3 => ?_⟩
      · rcases n2 a z with z | z
        · exact n1' a z
        · exact .inr (s1 a z)
      · rcases List.mem_cons.mp hu with rfl | hu
        · trivial
        · exact v2 u hu
      · cases i with
        | zero =>
          simp at h1 h2
          subst h1
          obtain ⟨⟨_, z⟩, _⟩ := h3
          cases z
        | succ i => exact c2 i y u a (by simpa using h1) (by simpa using h2) h3
/-- σ with the values vs at the slots is -/
def setsσ : List Nat → List V → St → St
  | i :: is, v :: vs, σ => setsσ is vs (σ.set i (some v))
  | _, _, σ => σ
theorem puts_ok : ∀ {is : List Nat} {ws : List W} {vs : List V} {ρ ρ' : En} {σ : St}, Rel g F ρ σ H → RWs g F ρ σ H vs ws → (∀ u ∈ ws, noVr u) → puts is ws ρ = some ρ' →
    Rel g F ρ' (setsσ is vs σ) H ∧ ∀ b, OwnAt ρ' (setsσ is vs σ) b → OwnAt ρ σ b ∨ ∃ (i : Nat) (y : W) (u : V), ws[i]? = some y ∧ vs[i]? = some u ∧ frAt y u b
  | [], ws, vs, ρ, ρ', σ, r, t, nv, e => by
    cases ws with
    | nil => cases e; exact ⟨r, fun b h => .inl h⟩
    | cons w ws => cases e
  | i :: is, [], _, ρ, ρ', σ, r, t, nv, e => by cases e
  | i :: is, w :: ws, v :: vs, ρ, ρ', σ, r, .cons h t n, nv, e => by
    obtain ⟨ρ1, e1, e2⟩ := Option.bind_eq_some_iff.mp e
    have step : Rel g F ρ1 (σ.set i (some v)) H ∧ ∀ b, OwnAt ρ1 (σ.set i (some v)) b → OwnAt ρ σ b ∨ frAt w v b := by
      cases w with
      | sh d =>
        obtain ⟨r1, o1⟩ := r.setSh h e1
        exact ⟨r1, fun b z => .inl (o1 b z)⟩
      | fr d =>
        obtain ⟨r1, o1⟩ := r.setFr h e1
        exact ⟨r1, fun b z => (o1 b z).imp id fun z => ⟨⟨_, rfl⟩, z⟩⟩
      | vr j => exact (show False from nv (.vr j) (by simp)).elim
    obtain ⟨r1, o1⟩ := step
    have t1 : RWs g F ρ1 (σ.set i (some v)) H vs ws := by
      have key : ∀ {vs' : List V} {ws' : List W}, RWs g F ρ σ H vs' ws' → (∀ u ∈ ws', noVr u) → (∀ a, frAt w v a → ∀ (i : Nat) y u, ws'[i]? = some y → vs'[i]? = some u → ¬ frAt y u a) → RWs g F ρ1 (σ.set i (some v)) H vs' ws' := by
        intro vs' ws' q
        induction q with
        | nil => intro _ _; exact .nil
        | @cons v' w' vs'' ws'' h' t' n' ih =>
          intro nv' z
          refine .cons ?_ (ih (fun u hu => nv' u (List.mem_cons_of_mem _ hu)) fun a f i y u h1 h2 => z a f (i + 1) y u (by simpa using h1) (by simpa using h2)) n'
          cases w' with
          | sh d => exact h'
          | fr d =>
            obtain ⟨a, ea, o, nF, no, f⟩ := h'
            refine ⟨a, ea, o, nF, fun q => ?_, f⟩
            rcases o1 a q with q | q
            · exact no q
            · exact z a q 0 _ _ rfl rfl ⟨⟨_, rfl⟩, ea⟩
          | vr j => exact (show False from nv' (.vr j) (by simp)).elim
      exact key t (fun u hu => nv u (List.mem_cons_of_mem _ hu)) n
    obtain ⟨r2, o2⟩ := puts_ok (is := is) r1 t1 (fun u hu => nv u (List.mem_cons_of_mem _ hu)) e2
    refine ⟨r2, fun b z => ?_⟩
    rcases o2 b z with z | ⟨j, y, u, z1, z2, z3⟩
    · rcases o1 b z with z | z
      · exact .inl z
      · exact .inr ⟨0, w, v, rfl, rfl, z⟩
    · exact .inr ⟨j + 1, y, u, by simpa using z1, by simpa using z2, z3⟩
/-- behind the stores, told from ahead of the evaluation -/
theorem APo.puts {ws us : List W} {vs : List V} {is : List Nat} (p : APo g F ρ σ H ws ρ1 vs F1 H1) (e1 : settle ws ρ1 = some (us, ρ2)) (e2 : PD.puts is us ρ2 = some ρ') :
    ∃ F', Post g F ρ σ H F' ρ' (setsσ is vs σ) H1 := by
  obtain ⟨F2, m2, n2, r2, t2, v2, s2, p2, c2⟩ := settle_ok p.t.post.rel p.rw e1
  obtain ⟨r3, o3⟩ := puts_ok (is := is) r2 t2 v2 e2
  have q := p.t.post
  refine ⟨F2, r3, fun a h => m2 a (q.mono a h), q.kept, q.there, fun b h => ?_, fun b h => ?_⟩
  · rcases n2 b h with z | z
    · exact q.newF b z
    · exact .inr (.inr (p.t.shr b z))
  · rcases o3 b h with z | ⟨i, y, u, z1, z2, z3⟩
    · exact .inl (p.t.shr b (s2 b z))
    · obtain ⟨z, y1, y2⟩ := c2 i y u b z1 z2 z3
      exact .inr (p.new i z u b y1 z2 y2)
end
/-- name = value -/
def dSet (i : Nat) (fa : DE) : DS := fun ρ => (fa ρ).bind fun x => (settle [x.1] x.2).bind fun y => (puts [i] y.1 y.2).map .nx
/-- a, b, .. = x, y, .. -/
def dPar (is : List Nat) (fs : DA) : DS := fun ρ => (fs ρ).bind fun x => (settle x.1 x.2).bind fun y => (puts is y.1 y.2).map .nx
/-- a, b, .. = a tuple's places -/
def dUnp (tg : DG) (fa : DE) : DS := fun ρ => (fa ρ).bind fun x => match x.1 with
  | .sh d => (tg d x.2).map .nx
  | _ => none
section
variable {X : Cx} {pos : Pos} {e : Expr} {fa : DE} {fs : DA}
theorem EPo.apo {g : G} {F F1 : Rg} {ρ ρ1 : En} {σ : St} {H H1 : Hp} {w : W} {v : V} (p : EPo g F ρ σ H w ρ1 v F1 H1) : APo g F ρ σ H [w] ρ1 [v] F1 H1 :=
  ⟨p.t, .cons p.rw .nil fun a f i y u h => by simp at h, fun i y u a h1 h2 h3 => by
    cases i with
    | zero =>
      simp at h1 h2
      subst h1 h2
      exact p.new a h3
    | succ i => simp at h1⟩
theorem set_ok {g : G} {i : Nat} {E : Ends} {σ : St} {H : Hp} (t : tS g (dSet i fa) E σ H) : tE g fa σ H (fun x H1 => gName i x σ H1 E.nx) := by
  obtain ⟨F, ρ, r, fl, e, q⟩ := t
  obtain ⟨⟨x, ρ1⟩, e1, e⟩ := Option.bind_eq_some_iff.mp e
  obtain ⟨⟨us, ρ2⟩, e2, e⟩ := Option.bind_eq_some_iff.mp e
  obtain ⟨ρ3, e3, e⟩ := Option.map_eq_some_iff.mp e
  cases e
  refine ⟨F, ρ, r, x, ρ1, e1, fun v H1 F1 p1 => ?_⟩
  obtain ⟨F', p⟩ := p1.apo.puts e2 e3
  exact q _ H1 F' p
theorem psd_of_set {i : Nat} {tg : Expr} {te : G → TE} (hp : ∀ g : G, g.K = X.K → PS X (.Assign [tg] e pos) (tAsg (te g) (gName i))) (ht : ∀ g, te g = tE g fa) : PSD X (.Assign [tg] e pos) (dSet i fa) := fun g hg => (hp g hg).wk fun E σ H t => by
  rw [ht]
  obtain ⟨F, ρ, r, fl, e, q⟩ := t
  obtain ⟨⟨x, ρ1⟩, e1, e⟩ := Option.bind_eq_some_iff.mp e
  obtain ⟨⟨us, ρ2⟩, e2, e⟩ := Option.bind_eq_some_iff.mp e
  obtain ⟨ρ3, e3, e⟩ := Option.map_eq_some_iff.mp e
  cases e
  refine ⟨F, ρ, r, x, ρ1, e1, fun v H1 F1 p1 => ?_⟩
  obtain ⟨F', p⟩ := p1.apo.puts e2 e3
  exact q _ H1 F' p
theorem psd_set {i : Nat} {x : Str} {pos' : Pos} (hN : X.N.Nodup) (hi : X.N[i]? = some x) (hx : Loc X.env.scope x) (ha : PED X e fa) (hs : swapsWith e (some (.Name x pos')) pos.line X.env = pure false := by rfl)
    (hf : X.fn x = true ∨ X.env.scope.names.lookup x = some .local := by first | exact .inl rfl | exact .inr rfl | assumption) : PSD X (.Assign [.Name x pos'] e pos) (dSet i fa) :=
  psd_of_set (te := fun g => tE g fa) (fun g hg => ps_set hN hi hx (ha g hg) hs hf) fun _ => rfl
theorem psd_unp {tg : Expr} {f : DG} {is : List Nat} (ha : PED X e fa) (ht : PGD X tg f is) (hs : swapsWithSole [tg] e pos.line X.env = pure false := by rfl) (hw : swappedStores [tg] e X.env = pure none := by rfl)
    (h1 : (assignEach [tg] X.env).map (·.2) = [assign tg X.env] := by rfl) : PSD X (.Assign [tg] e pos) (dUnp f fa) := fun g hg => (ps_asg (ha g hg) (ht g hg) hs hw h1).wk fun E σ H t => by
  obtain ⟨F, ρ, r, fl, e, q⟩ := t
  obtain ⟨⟨x, ρ1⟩, e1, e⟩ := Option.bind_eq_some_iff.mp e
  refine ⟨F, ρ, r, x, ρ1, e1, fun v H1 F1 p1 => ?_⟩
  simp only at e
  split at e
  · obtain ⟨ρ2, e2, e⟩ := Option.map_eq_some_iff.mp e
    cases e
    have p := p1.t.post
    refine ⟨F1, ρ1, _, p.rel, sh_inv p1.rw, ρ2, e2, fun σ' r' o' _ _ => q σ' H1 F1 ⟨r', p.mono, p.kept, p.there, p.newF, fun b h => p.newO b (o' b h)⟩⟩
  · cases e
/-- two plain names at once -/
theorem psd_par2 {i j : Nat} {x y : Str} {a b : Expr} {px py pt : Pos} {kt k2 pt2} (hc : X.calm = true) (hN : X.N.Nodup) (hi : X.N[i]? = some x) (hj : X.N[j]? = some y) (hij : i ≠ j)
    (hx : X.env.scope.names.lookup x = some .local) (hy : X.env.scope.names.lookup y = some .local) (ha : PAD X [a, b] fs)
    (hw : swappedStores [.Tuple [.Name x px, .Name y py] kt pt] (.Tuple [a, b] k2 pt2) X.env = pure (some [x, y]) := by rfl)
    (hs : swapsWithSole [.Tuple [.Name x px, .Name y py] kt pt] (.Tuple [a, b] k2 pt2) pos.line X.env = pure false := by rfl) :
    PSD X (.Assign [.Tuple [.Name x px, .Name y py] kt pt] (.Tuple [a, b] k2 pt2) pos) (dPar [i, j] fs) := fun g hg => (ps_par hc hN hi hj hij hx hy (ha g hg) hw hs).wk fun E σ H t => by
  obtain ⟨F, ρ, r, fl, e, q⟩ := t
  obtain ⟨⟨ws, ρ1⟩, e1, e⟩ := Option.bind_eq_some_iff.mp e
  obtain ⟨⟨us, ρ2⟩, e2, e⟩ := Option.bind_eq_some_iff.mp e
  obtain ⟨ρ3, e3, e⟩ := Option.map_eq_some_iff.mp e
  cases e
  refine ⟨F, ρ, r, ws, ρ1, e1, fun vs H1 F1 p1 => ?_⟩
  obtain ⟨F', p⟩ := p1.puts e2 e3
  have hl := p1.rw.length
  have hu : us.length = vs.length := by
    obtain ⟨F2, _, _, _, t2, _⟩ := settle_ok p1.t.post.rel p1.rw e2
    exact t2.length
  have h2 : us.length = 2 := by
    match us, e3 with
    | [_, _], _ => rfl
    | [], e3 => cases e3
    | [_], e3 => simp [PD.puts] at e3
    | _ :: _ :: _ :: _, e3 => simp [PD.puts] at e3
  match vs, hu.symm.trans h2 with
  | [v, w], _ => exact ⟨v, w, rfl, q _ H1 F' p⟩
theorem psd_par3 {i j l : Nat} {x y z : Str} {a b c : Expr} {px py pz pt : Pos} {kt k2 pt2} (hc : X.calm = true) (hN : X.N.Nodup) (hi : X.N[i]? = some x) (hj : X.N[j]? = some y) (hl : X.N[l]? = some z) (hij : i ≠ j) (hil : i ≠ l) (hjl : j ≠ l)
    (hx : X.env.scope.names.lookup x = some .local) (hy : X.env.scope.names.lookup y = some .local) (hz : X.env.scope.names.lookup z = some .local) (ha : PAD X [a, b, c] fs)
    (hw : swappedStores [.Tuple [.Name x px, .Name y py, .Name z pz] kt pt] (.Tuple [a, b, c] k2 pt2) X.env = pure (some [x, y, z]) := by rfl)
    (hs : swapsWithSole [.Tuple [.Name x px, .Name y py, .Name z pz] kt pt] (.Tuple [a, b, c] k2 pt2) pos.line X.env = pure false := by rfl) :
    PSD X (.Assign [.Tuple [.Name x px, .Name y py, .Name z pz] kt pt] (.Tuple [a, b, c] k2 pt2) pos) (dPar [i, j, l] fs) := fun g hg => (ps_par3 hc hN hi hj hl hij hil hjl hx hy hz (ha g hg) hw hs).wk fun E σ H t => by
  obtain ⟨F, ρ, r, fl, e, q⟩ := t
  obtain ⟨⟨ws, ρ1⟩, e1, e⟩ := Option.bind_eq_some_iff.mp e
  obtain ⟨⟨us, ρ2⟩, e2, e⟩ := Option.bind_eq_some_iff.mp e
  obtain ⟨ρ3, e3, e⟩ := Option.map_eq_some_iff.mp e
  cases e
  refine ⟨F, ρ, r, ws, ρ1, e1, fun vs H1 F1 p1 => ?_⟩
  obtain ⟨F', p⟩ := p1.puts e2 e3
  have hu : us.length = vs.length := by
    obtain ⟨F2, _, _, _, t2, _⟩ := settle_ok p1.t.post.rel p1.rw e2
    exact t2.length
  have h2 : us.length = 3 := by
    match us, e3 with
    | [_, _, _], _ => rfl
    | [], e3 => cases e3
    | [_], e3 => simp [PD.puts] at e3
    | [_, _], e3 => simp [PD.puts] at e3
    | _ :: _ :: _ :: _ :: _, e3 => simp [PD.puts] at e3
  match vs, hu.symm.trans h2 with
  | [u, v, w], _ => exact ⟨u, v, w, rfl, q _ H1 F' p⟩
/-- names that are stored one after another -/
def gNs : List Nat → L2.TGs
  | [] => L2.gNil
  | i :: is => L2.gCons (gName i) (gNs is)
theorem gNs_run {Q : St → Hp → Prop} : ∀ {is : List Nat} {vs : List V} {σ : St} {H : Hp}, is.length = vs.length → Q (setsσ is vs σ) H → gNs is vs σ H Q
  | [], [], _, _, _, h => ⟨rfl, h⟩
  | [], _ :: _, _, _, e, _ => by simp at e
  | _ :: _, [], _, _, e, _ => by simp at e
  | i :: is, v :: vs, σ, H, e, h => ⟨v, vs, rfl, gNs_run (is := is) (by simpa using e) h⟩
/-- any number of names at once, by the tuple -/
theorem psd_parT {is : List Nat} {ts es : List Expr} {pt : Pos} {kt k2 pt2} (hc : X.calm = true) (hT : PGs X ts (gNs is)) (hn : (assignEach ts X.env).length = is.length := by rfl) (hst : (assignEach ts X.env).findIdx? (·.1) = none := by rfl) (ha : PAD X es fs) (hle : is.length ≤ 100 := by decide)
    (hs : swapsWithSole [.Tuple ts kt pt] (.Tuple es k2 pt2) pos.line X.env = pure false := by rfl) (hw : swappedStores [.Tuple ts kt pt] (.Tuple es k2 pt2) X.env = pure none := by rfl)
    (h1 : (assignEach [Expr.Tuple ts kt pt] X.env).map (·.2) = [assign (.Tuple ts kt pt) X.env] := by rfl) :
    PSD X (.Assign [.Tuple ts kt pt] (.Tuple es k2 pt2) pos) (dPar is fs) := fun g hg => (ps_asg (pe_tup (ha g hg)) (pg_tup hc hT hn hst) hs hw h1).wk fun E σ H t => by
  obtain ⟨F, ρ, r, fl, e, q⟩ := t
  obtain ⟨⟨ws, ρ1⟩, e1, e⟩ := Option.bind_eq_some_iff.mp e
  obtain ⟨⟨us, ρ2⟩, e2, e⟩ := Option.bind_eq_some_iff.mp e
  obtain ⟨ρ3, e3, e⟩ := Option.map_eq_some_iff.mp e
  cases e
  refine ⟨F, ρ, r, ws, ρ1, e1, fun vs H1 F1 p1 => ?_⟩
  have hu : us.length = vs.length := by
    obtain ⟨F2, _, _, _, t2, _⟩ := settle_ok p1.t.post.rel p1.rw e2
    exact t2.length
  have hi : ∀ {is : List Nat} {us : List W} {ρ2 : En}, PD.puts is us ρ2 = some ρ3 → is.length = us.length := by
    intro is
    induction is with
    | nil => intro us ρ2 e; cases us with
      | nil => rfl
      | cons _ _ => cases e
    | cons i is ih => intro us ρ2 e; cases us with
      | nil => cases e
      | cons u us =>
        obtain ⟨ρ4, _, e4⟩ := Option.bind_eq_some_iff.mp e
        simp [ih e4]
  have hil : is.length = us.length := hi e3
  refine ⟨by rw [sizeLine_eq]; omega, fun p hp => ⟨p, vs, rfl, .inl (.inl upd_same), by omega, gNs_run (by omega) ?_⟩⟩
  -- the tuple itself is read by nobody
  have pk : APo g F ρ σ H ws ρ1 vs F1 (upd H1 p (.tup vs)) := by
    have tk := TPo.keptAll p1.t.post.rel (upd_kept (o := .tup vs) hp)
    exact ⟨p1.t.trans r tk, p1.rw.step p1.t.post.rel tk, p1.new⟩
  obtain ⟨F', p'⟩ := pk.puts e2 e3
  exact q _ _ F' p'
end
end PD
set_option Elab.async false
set_option linter.all false
set_option maxRecDepth 100000
set_option maxHeartbeats 4000000
/-! PD7: what is walked; for, while; list comprehensions. -/
namespace PD
set_option autoImplicit false
open PySem PySem.Spec L2
open PyProof.Rows hiding St

/-- an iterator that gives the data ds, one after another, while what is read stays -/
def ItOk (K : PySem.W.Frag) (F : Rg) (H : Hp) (J : It) (ds : List D) : Prop := ∃ (Gd : Hp → Prop) (Y : Nat → Hp → V → Hp → Prop), Walk J ds.length Gd Y ∧ (∀ F2 H2, Keeps F F2 H H2 → Gd H2) ∧
  ∀ (i : Nat) (d : D) (F2 : Rg) (H2 : Hp) (x : V) (H3 : Hp), ds[i]? = some d → Keeps F F2 H H2 → Y i H2 x H3 → NewR K F2 H2 x H3 (.sh d)
abbrev DI := En → Option (List D × En)
def tI (g : G) (f : DI) : TI := fun σ H R => ∃ F ρ, Rel g F ρ σ H ∧ ∃ ds ρ', f ρ = some (ds, ρ') ∧ ∀ J H' F', TPo g F ρ σ H F' ρ' H' → ItOk g.K F' H' J ds → R J H'
def PID (X : Cx) (tg iter : Expr) (f : DI) : Prop := ∀ g : G, g.K = X.K → PI X tg iter (tI g f)
theorem _root_.L2.PI.wk {X : Cx} {tg e : Expr} {t t' : TI} (h : PI X tg e t) (hi : ∀ σ H Q, t' σ H Q → t σ H Q) : PI X tg e t' := ⟨fun pins s σ H Q I q => h.run pins s σ H Q I (hi σ H Q q)⟩
theorem Keeps.trans {F F1 F2 : Rg} {H H1 H2 : Hp} (a : Keeps F F1 H H1) (b : Keeps F1 F2 H1 H2) : Keeps F F2 H H2 :=
  ⟨fun x h => b.inn x (a.inn x h), fun x xs h => b.tup x xs (a.tup x xs h), fun x o xs h => b.fzt x o xs (a.fzt x o xs h), fun x u f h => b.obj x u (a.inn x f) (a.obj x u f h)⟩

/-- the items of a list or a tuple; what is walked is given away -/
def itemsOf : D → Option (List D)
  | .list ds => some ds
  | .tuple ds => some ds
  | _ => none
def dItems (fa : DE) : DI := fun ρ => (fa ρ).bind fun x => (x.1.give x.2).bind fun y => (itemsOf y.1).map fun ds => (ds, y.2)
/-- known to be a tuple (a list) -/
def dItemsT (fa : DE) : DI := fun ρ => (fa ρ).bind fun x => (x.1.give x.2).bind fun y => match y.1 with
  | .tuple ds => some (ds, y.2)
  | _ => none
def dItemsL (fa : DE) : DI := fun ρ => (fa ρ).bind fun x => (x.1.give x.2).bind fun y => match y.1 with
  | .list ds => some (ds, y.2)
  | _ => none
section
variable {K : PySem.W.Frag} {F : Rg} {H : Hp} {a : Addr} {xs : List V} {ds : List D}
theorem itOk_list (hf : F a) (hr : Rd H a (.lst xs)) (hd : Dts K F H ds xs) : ItOk K F H (Itl K a) ds := by
  refine ⟨fun H2 => SqL K H2 a xs, YAt xs, by rw [hd.length]; exact walk_list, fun F2 H2 k => .inl (k.obj a _ hf hr), fun i d F2 H2 x H3 e k y => ?_⟩
  obtain ⟨rfl, ex⟩ := y
  obtain ⟨v, ev, h⟩ := hd.get e
  rw [ex] at ev
  cases ev
  exact .val (h.keeps k)
theorem itOk_tup (hr : SqT K H a xs) (hd : Dts K F H ds xs) : ItOk K F H (Itt K a) ds := by
  refine ⟨fun H2 => SqT K H2 a xs, YAt xs, by rw [hd.length]; exact walk_tup, fun F2 H2 k => k.sqt hr, fun i d F2 H2 x H3 e k y => ?_⟩
  obtain ⟨rfl, ex⟩ := y
  obtain ⟨v, ev, h⟩ := hd.get e
  rw [ex] at ev
  cases ev
  exact .val (h.keeps k)
/-- lo, lo + 1, .. : n of them -/
def rgD (lo : Int) (n : Nat) : List D := (List.range n).map fun (i : Nat) => PyData.int (lo + (i : Int))
theorem rgD_get {lo : Int} {n i : Nat} {d : D} (h : (rgD lo n)[i]? = some d) : d = .int (lo + (i : Int)) := by
  unfold rgD at h
  rw [List.getElem?_map] at h
  obtain ⟨j, h1, h2⟩ := Option.map_eq_some_iff.mp h
  have := List.getElem?_eq_some_iff.mp h1
  obtain ⟨hl, e⟩ := this
  rw [List.getElem_range] at e
  subst e
  exact h2.symm
theorem itOk_range {lo : Int} {n : Nat} : ItOk K F H (Itr lo n) (rgD lo n) := by
  refine ⟨fun _ => True, _, by unfold rgD; rw [List.length_map, List.length_range]; exact walk_range, fun _ _ _ => trivial, fun i d F2 H2 x H3 e k y => ?_⟩
  obtain ⟨rfl, rfl⟩ := y
  rw [rgD_get e]
  exact .val (.int _)
end
def okRg (j : Int) : Prop := -4611686018427387904 ≤ j ∧ j < 4611686018427387904
open Classical in
noncomputable def dRg1 (fa : DE) : DI := fun ρ => (fa ρ).bind fun x => match x.1 with
  | .sh (.int j) => if okRg j then some (rgD 0 j.toNat, x.2) else none
  | _ => none
open Classical in
noncomputable def dRg2 (fa fb : DE) : DI := fun ρ => (fa ρ).bind fun x => (fb x.2).bind fun y => match x.1, y.1 with
  | .sh (.int i), .sh (.int j) => if okRg i ∧ okRg j then some (rgD i (j - i).toNat, y.2) else none
  | _, _ => none
section
variable {X : Cx} {tg a b : Expr} {p pos : Pos} {fa fb : DE}
theorem pid_list (ha : PED X a fa) : PID X tg a (dItemsL fa) := fun g hg => (pi_list (ha g hg)).wk fun σ H Q t => by
  obtain ⟨F, ρ, r, ds, ρ', e, q⟩ := t
  obtain ⟨⟨x, ρ1⟩, e1, e⟩ := Option.bind_eq_some_iff.mp e
  obtain ⟨⟨d, ρ2⟩, e2, e⟩ := Option.bind_eq_some_iff.mp e
  refine ⟨F, ρ, r, x, ρ1, e1, fun v H1 F1 p1 => ?_⟩
  obtain ⟨F2, p2, h⟩ := p1.give e2
  simp only at e
  split at e
  · cases e
    cases h with
    | lst f rr dd => exact ⟨_, rfl, ⟨_, .inl rr⟩, by rw [← hg]; exact q _ H1 F2 p2 (itOk_list f rr dd)⟩
  · cases e
theorem pid_tup (ha : PED X a fa) : PID X tg a (dItemsT fa) := fun g hg => (pi_tup (ha g hg)).wk fun σ H Q t => by
  obtain ⟨F, ρ, r, ds, ρ', e, q⟩ := t
  obtain ⟨⟨x, ρ1⟩, e1, e⟩ := Option.bind_eq_some_iff.mp e
  obtain ⟨⟨d, ρ2⟩, e2, e⟩ := Option.bind_eq_some_iff.mp e
  refine ⟨F, ρ, r, x, ρ1, e1, fun v H1 F1 p1 => ?_⟩
  obtain ⟨F2, p2, h⟩ := p1.give e2
  simp only at e
  split at e
  · cases e
    cases h with
    | tup rr dd => exact ⟨_, rfl, ⟨_, hg ▸ rr⟩, by rw [← hg]; exact q _ H1 F2 p2 (itOk_tup rr dd)⟩
  · cases e
theorem pid_range1 (hG : Gl X "range") (hm : X.mg "range" = none) (ha : PED X a fa) (h1 : starEach [a] X.env = (false, eval a X.env) :: starEach [] X.env := by rfl) (hs : starEach [a] X.env = [(false, eval a X.env)] := by rfl) : PID X tg (.Call (.Name "range" p) [a] [] pos) (dRg1 fa) := fun g hg => (pi_range1 hG hm (pa_cons (ha g hg) pa_nil h1) hs).wk fun σ H Q t => by
  obtain ⟨F, ρ, r, ds, ρ', e, q⟩ := t
  obtain ⟨⟨x, ρ1⟩, e1, e⟩ := Option.bind_eq_some_iff.mp e
  refine ⟨F, ρ, r, x, ρ1, e1, fun v H1 F1 p1 => ?_⟩
  simp only at e
  split at e
  · split at e
    · rename_i hz
      cases e
      cases sh_inv p1.rw
      unfold okRg at hz
      exact ⟨_, rfl, by omega, by omega, q _ H1 F1 p1.t itOk_range⟩
    · cases e
  · cases e
theorem pid_range2 (hG : Gl X "range") (hm : X.mg "range" = none) (ha : PED X a fa) (hb : PED X b fb) (h1 : starEach [a, b] X.env = (false, eval a X.env) :: starEach [b] X.env := by rfl) (h2 : starEach [b] X.env = (false, eval b X.env) :: starEach [] X.env := by rfl)
    (hs : starEach [a, b] X.env = [(false, eval a X.env), (false, eval b X.env)] := by rfl) (hs2 : starEach [b] X.env = [(false, eval b X.env)] := by rfl) : PID X tg (.Call (.Name "range" p) [a, b] [] pos) (dRg2 fa fb) := fun g hg => (pi_range2 hG hm (pa_cons (ha g hg) (pa_cons (hb g hg) pa_nil h2) h1) hs hs2).wk fun σ H Q t => by
  obtain ⟨F, ρ, r, ds, ρ', e, q⟩ := t
  obtain ⟨⟨x, ρ1⟩, e1, e⟩ := Option.bind_eq_some_iff.mp e
  obtain ⟨⟨y, ρ2⟩, e2, e⟩ := Option.bind_eq_some_iff.mp e
  refine ⟨F, ρ, r, x, ρ1, e1, fun v H1 F1 p1 => ⟨F1, ρ1, p1.t.post.rel, y, ρ2, e2, fun u H2 F2 p2 => ?_⟩⟩
  simp only at e
  split at e
  · split at e
    · rename_i hz
      cases e
      cases sh_inv p1.rw
      cases sh_inv p2.rw
      unfold okRg at hz
      exact ⟨_, _, rfl, ⟨by omega, by omega, by omega, by omega⟩, q _ H2 F2 (p1.t.trans r p2.t) itOk_range⟩
    · cases e
  · cases e
end

/-! ### slots forgotten -/
def wipeS (sl : List (Option Sl)) : List Nat → List (Option Sl)
  | [] => sl
  | v :: vs => (wipeS sl vs).set v none
def En.wipe (ρ : En) (vs : List Nat) : Option En := if ρ.cup = true ∧ 0 ∈ vs then none else some { ρ with sl := wipeS ρ.sl vs }
section
variable {g : G} {F F1 F2 F' : Rg} {ρ ρ1 ρ2 ρ' : En} {σ σ1 σ' : St} {H H1 H2 H' : Hp} {vs : List Nat}
theorem wipeS_length (sl : List (Option Sl)) : ∀ vs : List Nat, (wipeS sl vs).length = sl.length
  | [] => rfl
  | v :: vs => by unfold wipeS; rw [List.length_set, wipeS_length sl vs]
theorem wipeS_some {sl : List (Option Sl)} {i : Nat} {s : Sl} : ∀ {vs : List Nat}, (wipeS sl vs)[i]? = some (some s) → sl[i]? = some (some s) ∧ i ∉ vs
  | [], h => ⟨h, by simp⟩
  | v :: vs, h => by
    rcases set_at (sl := wipeS sl vs) h with ⟨_, q, _⟩ | ⟨ne, h⟩
    · cases q
    · obtain ⟨h1, h2⟩ := wipeS_some h
      exact ⟨h1, by simp only [List.mem_cons, not_or]; exact ⟨fun e => ne e.symm, h2⟩⟩
theorem wipeS_out {sl : List (Option Sl)} {i : Nat} : ∀ {vs : List Nat}, i ∉ vs → (wipeS sl vs)[i]? = sl[i]?
  | [], _ => rfl
  | v :: vs, h => by
    unfold wipeS
    rw [List.getElem?_set_ne (fun e => h (by rw [e]; exact List.mem_cons_self)), wipeS_out fun m => h (List.mem_cons_of_mem _ m)]
/-- slots forgotten, in the data alone (or in both) -/
theorem Rel.wiped {σ2 : St} (r : Rel g F ρ σ H) (hl : σ2.length = σ.length) (hσ : ∀ (i : Nat), i ∉ vs → σ2[i]? = σ[i]?) (hc : ¬ (ρ.cup = true ∧ 0 ∈ vs)) : Rel g F { ρ with sl := wipeS ρ.sl vs } σ2 H := by
  refine ⟨by show (wipeS ρ.sl vs).length = _; rw [wipeS_length, hl]; exact r.len, fun i d e => ?_, fun i d e => ?_, fun i j d e a h1 h2 h3 h4 => ?_, fun h => ?_, r.cupF, r.F0, r.Fn, r.Fs, r.base⟩
  · obtain ⟨e1, n⟩ := wipeS_some e
    rw [hσ i n]
    exact r.sh i d e1
  · obtain ⟨e1, n⟩ := wipeS_some e
    rw [hσ i n]
    exact r.own i d e1
  · obtain ⟨k1, n1⟩ := wipeS_some h1
    obtain ⟨k2, n2⟩ := wipeS_some h2
    rw [hσ i n1] at h3
    rw [hσ j n2] at h4
    exact r.dist i j d e a k1 k2 h3 h4
  · obtain ⟨c, d, c1, c2, c3⟩ := r.cupT h
    have n0 : 0 ∉ vs := fun z => hc ⟨h, z⟩
    exact ⟨c, d, c1, by rw [hσ 0 n0]; exact c2, by show (wipeS ρ.sl vs)[0]? = _; rw [wipeS_out n0]; exact c3⟩
theorem ownAt_wiped {σ2 : St} (hσ : ∀ (i : Nat), i ∉ vs → σ2[i]? = σ[i]?) {b : Addr} (h : OwnAt { ρ with sl := wipeS ρ.sl vs } σ2 b) : OwnAt ρ σ b := by
  obtain ⟨i, d, e1, e2⟩ := h
  obtain ⟨k, n⟩ := wipeS_some e1
  rw [hσ i n] at e2
  exact ⟨i, d, k, e2⟩
theorem En.wipe_some (e : ρ.wipe vs = some ρ') : ¬ (ρ.cup = true ∧ 0 ∈ vs) ∧ ρ' = { ρ with sl := wipeS ρ.sl vs } := by
  unfold En.wipe at e
  split at e
  · cases e
  · rename_i h
    cases e
    exact ⟨h, rfl⟩
theorem Post.wipe (p : Post g F ρ σ H F1 ρ1 σ1 H1) (e : ρ1.wipe vs = some ρ2) : Post g F ρ σ H F1 ρ2 σ1 H1 := by
  obtain ⟨hc, rfl⟩ := En.wipe_some e
  exact ⟨p.rel.wiped rfl (fun _ _ => rfl) hc, p.mono, p.kept, p.there, p.newF, fun b h => p.newO b (ownAt_wiped (fun _ _ => rfl) h)⟩
end

/-! ### for -/
def forGo (tg : DG) (body : DS) (vs : List Nat) : List D → En → Option Fl
  | [], ρ => some (.nx ρ)
  | d :: ds, ρ => (tg d ρ).bind fun ρ1 => (body ρ1).bind fun fl => match fl with
    | .nx ρ2 => (ρ2.wipe vs).bind fun ρ3 => forGo tg body vs ds ρ3
    | .ct ρ2 => (ρ2.wipe vs).bind fun ρ3 => forGo tg body vs ds ρ3
    | .bk ρ2 => some (.nx ρ2)
    | .rt w ρ2 => some (.rt w ρ2)
/-- vs: slots that are forgotten behind each turn -/
def dFor (fi : DI) (tg : DG) (body : DS) (vs : List Nat) : DS := fun ρ => (fi ρ).bind fun x => forGo tg body vs x.1 x.2
section
variable {X : Cx} {pos : Pos} {tg iter : Expr} {body : List Stmt} {fi : DI} {ft : DG} {fb : DS} {is vs : List Nat}
theorem NewR.tpo {g : G} {F : Rg} {ρ : En} {σ : St} {H H' : Hp} {v : V} {d : D} (r : Rel g F ρ σ H) (n : NewR g.K F H v H' (.sh d)) : TPo g F ρ σ H F ρ H' ∧ Dt g.K F H' d v := ⟨(n.epo r).t, sh_inv (n.epo r).rw⟩
theorem for_ok {g : G} {is : List Nat} {E : Ends} {σ : St} {H : Hp} (t : tS g (dFor fi ft fb vs) E σ H) : tFor (tI g fi) (tG g ft is) (tS g fb) E σ H := by
  obtain ⟨F, ρ, r, fl, e, q⟩ := t
  obtain ⟨⟨ds, ρ1⟩, e1, e⟩ := Option.bind_eq_some_iff.mp e
  refine ⟨F, ρ, r, ds, ρ1, e1, fun J H1 F1 p1 ok => ?_⟩
  have hlen := ds.length
  have q1 := q.from r p1.post
  have r1 := p1.post.rel
  obtain ⟨Gd, Y, wk, hG, hY⟩ := ok
  refine ⟨fun i m σ2 H2 => m + i = ds.length ∧ ∃ F2 ρ2, Post g F1 ρ1 σ H1 F2 ρ2 σ2 H2 ∧ forGo ft fb vs (ds.drop i) ρ2 = some fl, ⟨ds.length, by omega, F1, ρ1, Post.refl r1, by rw [List.drop_zero]; exact e⟩, ?_⟩
  rintro i m σ2 H2 ⟨hm, F2, ρ2, p2, e2⟩
  have r2 := p2.rel
  have gd := hG F2 H2 (p2.keeps r1)
  by_cases hi' : i < ds.length
  · refine .inr ⟨wk.goes i H2 hi' gd, fun σ3 H3 => ∃ F3 ρ3, Post g F1 ρ1 σ H1 F3 ρ3 σ3 H3 ∧ forGo ft fb vs (ds.drop (i + 1)) ρ3 = some fl, fun σ3 H3 ⟨F3, ρ3, z1, z2⟩ => ⟨m - 1, by omega, by omega, F3, ρ3, z1, z2⟩, fun x H3 y => ?_⟩
    have ed : ds.drop i = ds[i] :: ds.drop (i + 1) := List.drop_eq_getElem_cons hi'
    rw [ed] at e2
    obtain ⟨ρ3, e3, e2⟩ := Option.bind_eq_some_iff.mp e2
    obtain ⟨fl1, e4, e2⟩ := Option.bind_eq_some_iff.mp e2
    obtain ⟨tn, dn⟩ := (hY i ds[i] F2 H2 x H3 (List.getElem?_eq_getElem hi') (p2.keeps r1) (wk.yields i H2 x H3 hi' gd y)).tpo r2
    refine ⟨F2, ρ2, ds[i], tn.post.rel, dn, ρ3, e3, fun σ4 r4 o4 _ _ => ⟨F2, ρ3, r4, fl1, e4, ?_⟩⟩
    have p3 : Post g F1 ρ1 σ H1 F2 ρ2 σ2 H3 := p2.trans r1 tn.post
    have p4 : Post g F1 ρ1 σ H1 F2 ρ3 σ4 H3 := ⟨r4, p3.mono, p3.kept, p3.there, p3.newF, fun b h => p3.newO b (o4 b h)⟩
    cases fl1 with
    | nx ρ5 =>
      intro σ5 H5 F5 p5
      obtain ⟨ρ6, e6, e2⟩ := Option.bind_eq_some_iff.mp e2
      exact ⟨F5, ρ6, (p4.trans r1 p5).wipe e6, e2⟩
    | ct ρ5 =>
      intro σ5 H5 F5 p5
      obtain ⟨ρ6, e6, e2⟩ := Option.bind_eq_some_iff.mp e2
      exact ⟨F5, ρ6, (p4.trans r1 p5).wipe e6, e2⟩
    | bk ρ5 =>
      cases e2
      exact fun σ5 H5 F5 p5 => q1 σ5 H5 F5 (p4.trans r1 p5)
    | rt w ρ5 =>
      cases e2
      exact fun v σ5 H5 F5 p5 => q1 v σ5 H5 F5 (p4.trans r1 p5)
  · have hie : i = ds.length := by omega
    subst hie
    rw [List.drop_length] at e2
    cases e2
    exact .inl ⟨wk.stops H2 gd, q1 σ2 H2 F2 p2⟩
theorem psd_for (hp : PassesOwn (model X.prog X.w) X.A X.env X.xe) (hc : X.calm = true) (hi : PID X tg iter fi) (hg' : PGD X tg ft is) (hb : PSsD X body fb) (vs : List Nat)
    (hs : ∀ x, foldedSetIterable iter X.env x = pure x := by intro _; rfl) : PSD X (.For tg iter body [] pos) (dFor fi ft fb vs) := fun g hg => (ps_for hp hc (hi g hg) (hg' g hg) (hb g hg) hs).wk fun E σ H t => for_ok t
end

/-! ### while -/
def whileGo (ft : DT) (body : DS) (vs : List Nat) : Nat → En → Option Fl
  | 0, _ => none
  | n + 1, ρ => (ft ρ).bind fun x => if x.1 = true then (body x.2).bind fun fl => match fl with
      | .nx ρ2 => (ρ2.wipe vs).bind fun ρ3 => whileGo ft body vs n ρ3
      | .ct ρ2 => (ρ2.wipe vs).bind fun ρ3 => whileGo ft body vs n ρ3
      | .bk ρ2 => some (.nx ρ2)
      | .rt w ρ2 => some (.rt w ρ2)
    else some (.nx x.2)
open Classical in
noncomputable def dWhile (ft : DT) (body : DS) (vs : List Nat) : DS := fun ρ => if h : ∃ (n : Nat) (fl : Fl), whileGo ft body vs n ρ = some fl then some (choose (choose_spec h)) else none
theorem whileGo_mono {ft : DT} {body : DS} {vs : List Nat} : ∀ {n : Nat} {ρ : En} {fl : Fl}, whileGo ft body vs n ρ = some fl → ∀ m, n ≤ m → whileGo ft body vs m ρ = some fl
  | 0, _, _, h, _, _ => by cases h
  | n + 1, ρ, fl, h, 0, hm => by omega
  | n + 1, ρ, fl, h, m + 1, hm => by
    obtain ⟨x, e1, e⟩ := Option.bind_eq_some_iff.mp h
    refine Option.bind_eq_some_iff.mpr ⟨x, e1, ?_⟩
    split at e
    · rename_i hx
      rw [if_pos hx]
      obtain ⟨fl1, e2, e⟩ := Option.bind_eq_some_iff.mp e
      refine Option.bind_eq_some_iff.mpr ⟨fl1, e2, ?_⟩
      cases fl1 with
      | nx ρ2 =>
        obtain ⟨ρ3, e3, e⟩ := Option.bind_eq_some_iff.mp e
        exact Option.bind_eq_some_iff.mpr ⟨ρ3, e3, whileGo_mono e m (by omega)⟩
      | ct ρ2 =>
        obtain ⟨ρ3, e3, e⟩ := Option.bind_eq_some_iff.mp e
        exact Option.bind_eq_some_iff.mpr ⟨ρ3, e3, whileGo_mono e m (by omega)⟩
      | bk ρ2 => exact e
      | rt w ρ2 => exact e
    · rename_i hx
      rw [if_neg hx]
      exact e
theorem dWhile_of {ft : DT} {body : DS} {vs : List Nat} {n : Nat} {ρ : En} {fl : Fl} (h : whileGo ft body vs n ρ = some fl) : dWhile ft body vs ρ = some fl := by
  have hx : ∃ (n : Nat) (fl : Fl), whileGo ft body vs n ρ = some fl := ⟨n, fl, h⟩
  unfold dWhile
  rw [dif_pos hx]
  have h2 := Classical.choose_spec (Classical.choose_spec hx)
  have a := whileGo_mono h (max n (Classical.choose hx)) (Nat.le_max_left _ _)
  have b := whileGo_mono h2 (max n (Classical.choose hx)) (Nat.le_max_right _ _)
  exact b.symm.trans a
theorem dWhile_inv {ft : DT} {body : DS} {vs : List Nat} {ρ : En} {fl : Fl} (h : dWhile ft body vs ρ = some fl) : ∃ n, whileGo ft body vs n ρ = some fl := by
  unfold dWhile at h
  split at h
  · rename_i hx
    cases h
    exact ⟨_, Classical.choose_spec (Classical.choose_spec hx)⟩
  · cases h
section
variable {X : Cx} {pos : Pos} {c : Expr} {body : List Stmt} {ft : DT} {fb : DS}
theorem psd_while (hp : PassesOwn (model X.prog X.w) X.A X.env X.xe) (hc : PTD X c ft) (hb : PSsD X body fb) (vs : List Nat) : PSD X (.While c body [] pos) (dWhile ft fb vs) := fun g hg => (ps_while hp (hc g hg) (hb g hg)).wk fun E σ H t => by
  obtain ⟨F, ρ, r, fl, e, q⟩ := t
  obtain ⟨n, e⟩ := dWhile_inv e
  refine ⟨fun m σ2 H2 => ∃ F2 ρ2, Post g F ρ σ H F2 ρ2 σ2 H2 ∧ whileGo ft fb vs m ρ2 = some fl, ⟨n, F, ρ, Post.refl r, e⟩, ?_⟩
  rintro m σ2 H2 ⟨F2, ρ2, p2, e2⟩
  cases m with
  | zero => cases e2
  | succ m =>
    obtain ⟨⟨b, ρ3⟩, e3, e2⟩ := Option.bind_eq_some_iff.mp e2
    refine ⟨F2, ρ2, p2.rel, b, ρ3, e3, fun H3 F3 p3 => ?_⟩
    have p := p2.trans r p3.post
    cases b with
    | false =>
      rw [if_neg (show ¬ (false = true) from Bool.false_ne_true)] at e2
      cases e2
      show (if false = true then _ else _)
      rw [if_neg (show ¬ (false = true) from Bool.false_ne_true)]
      exact q σ2 H3 F3 p
    | true =>
      rw [if_pos rfl] at e2
      show (if true = true then _ else _)
      rw [if_pos rfl]
      obtain ⟨fl1, e4, e2⟩ := Option.bind_eq_some_iff.mp e2
      refine ⟨fun σ5 H5 => ∃ F5 ρ5, Post g F ρ σ H F5 ρ5 σ5 H5 ∧ whileGo ft fb vs m ρ5 = some fl, fun σ5 H5 z => ⟨m, by omega, z⟩, F3, ρ3, p3.post.rel, fl1, e4, ?_⟩
      cases fl1 with
      | nx ρ5 =>
        intro σ5 H5 F5 p5
        obtain ⟨ρ6, e6, e2⟩ := Option.bind_eq_some_iff.mp e2
        exact ⟨F5, ρ6, (p.trans r p5).wipe e6, e2⟩
      | ct ρ5 =>
        intro σ5 H5 F5 p5
        obtain ⟨ρ6, e6, e2⟩ := Option.bind_eq_some_iff.mp e2
        exact ⟨F5, ρ6, (p.trans r p5).wipe e6, e2⟩
      | bk ρ5 =>
        cases e2
        exact fun σ5 H5 F5 p5 => q σ5 H5 F5 (p.trans r p5)
      | rt w ρ5 =>
        cases e2
        exact fun v σ5 H5 F5 p5 => q v σ5 H5 F5 (p.trans r p5)
end
end PD
set_option Elab.async false
set_option linter.all false
set_option maxRecDepth 100000
set_option maxHeartbeats 4000000
/-! PD8: lists or tuples walked, zip, enumerate. -/
namespace PD
set_option autoImplicit false
open PySem PySem.Spec L2
open PyProof.Rows hiding St

section
variable {X : Cx} {tg a b : Expr} {p pos : Pos} {fa fb : DE}
/-- a list or a tuple, walked -/
theorem pid_seq (ha : PED X a fa) : PID X tg a (dItems fa) := fun g hg => ⟨fun pins s σ H R I t => by
  obtain ⟨F, ρ, r, ds, ρ', e, q⟩ := t
  obtain ⟨⟨x, ρ1⟩, e1, e⟩ := Option.bind_eq_some_iff.mp e
  obtain ⟨⟨d, ρ2⟩, e2, e⟩ := Option.bind_eq_some_iff.mp e
  have hc := (ha g hg).run pins s σ H (fun v H1 => ∃ F2, TPo g F ρ σ H F2 ρ2 H1 ∧ Dt g.K F2 H1 d v) I ⟨F, ρ, r, x, ρ1, e1, fun v H1 F1 p1 => p1.give e2⟩
  refine thn hc fun v s1 ⟨u, H1, I1, ru, F2, p2, h⟩ => ?_
  cases h with
  | lst f rr dd =>
    cases e
    cases ru
    obtain ⟨its, rv, pl, hz⟩ := I1.list (.inl rr)
    refine wpAny_pyIter_list pl.isList ?_
    refine ⟨s1.heap.objs.size, [s1.heap.objs.size], _, _, H1, rfl, I1.kept (t' := s1.toks) fun b o z => Heap.get?_push_of_some _ z, turn_list _ _, ⟨_, Heap.get?_push_size _ rfl, rfl, rfl⟩, fun b hb => ?_, ?_⟩
    · cases List.mem_singleton.mp hb
      exact I1.fpOk (Nat.le_refl _) I1.fresh
    · rw [← hg]
      exact q _ H1 F2 p2 (itOk_list f rr dd)
  | tup rr dd =>
    cases e
    cases ru
    obtain ⟨its, rv, pl, hz⟩ := I1.tuple (hg ▸ rr)
    refine wpAny_pyIter_tuple (show s1.heap.IsTuple _ its.toArray from pl) ?_
    refine ⟨s1.heap.objs.size, [s1.heap.objs.size], _, _, H1, rfl, I1.kept (t' := s1.toks) fun b o z => Heap.get?_push_of_some _ z, turn_tuple _ _, ⟨_, Heap.get?_push_size _ rfl, rfl, rfl⟩, fun b hb => ?_, ?_⟩
    · cases List.mem_singleton.mp hb
      exact I1.fpOk (Nat.le_refl _) I1.fresh
    · rw [← hg]
      exact q _ H1 F2 p2 (itOk_tup rr dd)
  | non => cases e
  | bl _ => cases e
  | int _ => cases e
  | str _ => cases e
  | dik _ _ _ => cases e⟩
end

/-! ### zip -/
def zipD (xs ys : List D) : List D := List.zipWith (fun x y => PyData.tuple [x, y]) xs ys
def dZip (fs : DA) : DI := fun ρ => (fs ρ).bind fun x => (gives x.1 x.2).bind fun y => match y.1 with
  | [.list xs, .list ys] => some (zipD xs ys, y.2)
  | [.tuple xs, .tuple ys] => some (zipD xs ys, y.2)
  | _ => none
section
variable {K : PySem.W.Frag} {F : Rg} {H : Hp} {a b : Addr} {xs ys : List V} {ds es : List D}
theorem pair_new {F2 : Rg} {H2 H3 : Hp} {v x y : V} {T : Addr} {d e : D} (k : Keeps F F2 H H2) (h1 : v = .ref T) (h2 : H2 T = none) (h3 : H3 = upd H2 T (.tup [x, y])) (hd : Dt K F2 H2 d x) (he : Dt K F2 H2 e y) : NewR K F2 H2 v H3 (.sh (.tuple [d, e])) := by
  subst h1 h3
  exact .tup h2 (.cons hd (.cons he .nil))
theorem zip_get {i : Nat} {d : D} (h : (zipD ds es)[i]? = some d) : ∃ x y, ds[i]? = some x ∧ es[i]? = some y ∧ d = .tuple [x, y] := by
  unfold zipD at h
  rw [List.getElem?_zipWith] at h
  cases q1 : ds[i]? with
  | none => rw [q1] at h; cases h
  | some x =>
    cases q2 : es[i]? with
    | none => rw [q1, q2] at h; cases h
    | some y =>
      rw [q1, q2] at h
      cases h
      exact ⟨x, y, rfl, rfl, rfl⟩
theorem itOk_zipL (ha : F a) (ra : Rd H a (.lst xs)) (hd : Dts K F H ds xs) (hb : F b) (rb : Rd H b (.lst ys)) (he : Dts K F H es ys) : ItOk K F H (Itz K a b) (zipD ds es) := by
  refine ⟨fun H2 => SqL K H2 a xs ∧ SqL K H2 b ys, _, walk_zip (by unfold zipD; rw [List.length_zipWith, hd.length, he.length]), fun F2 H2 k => ⟨.inl (k.obj a _ ha ra), .inl (k.obj b _ hb rb)⟩, fun i d F2 H2 x H3 e k y => ?_⟩
  obtain ⟨T, u, v, h1, h2, h3, h4, h5⟩ := y
  obtain ⟨d1, d2, g1, g2, rfl⟩ := zip_get e
  obtain ⟨u', e1, t1⟩ := hd.get g1
  obtain ⟨v', e2, t2⟩ := he.get g2
  cases h4.symm.trans e1
  cases h5.symm.trans e2
  exact pair_new k h1 h2 h3 (t1.keeps k) (t2.keeps k)
theorem walk_zipT {n : Nat} (hn : n = min xs.length ys.length) : Walk (RZ.ItzT K a b) n (fun H => SqT K H a xs ∧ SqT K H b ys) (YPair (fun i => xs[i]?) (fun i => ys[i]?)) := by
  subst hn
  refine ⟨fun i _ hi q => ?_, fun _ q => ⟨xs, ys, q.1, q.2, by omega⟩, fun i H v H' _ q y => ?_⟩
  · exact ⟨xs, ys, xs[i]'(by omega), ys[i]'(by omega), q.1, q.2, List.getElem?_eq_getElem _, List.getElem?_eq_getElem _⟩
  · obtain ⟨T, x, z, h1, h2, h3, h4, h5⟩ := y
    exact ⟨T, x, z, h1, h2, h3, h4 xs q.1, h5 ys q.2⟩
theorem itOk_zipT (ra : SqT K H a xs) (hd : Dts K F H ds xs) (rb : SqT K H b ys) (he : Dts K F H es ys) : ItOk K F H (RZ.ItzT K a b) (zipD ds es) := by
  refine ⟨fun H2 => SqT K H2 a xs ∧ SqT K H2 b ys, _, walk_zipT (by unfold zipD; rw [List.length_zipWith, hd.length, he.length]), fun F2 H2 k => ⟨k.sqt ra, k.sqt rb⟩, fun i d F2 H2 x H3 e k y => ?_⟩
  obtain ⟨T, u, v, h1, h2, h3, h4, h5⟩ := y
  obtain ⟨d1, d2, g1, g2, rfl⟩ := zip_get e
  obtain ⟨u', e1, t1⟩ := hd.get g1
  obtain ⟨v', e2, t2⟩ := he.get g2
  cases h4.symm.trans e1
  cases h5.symm.trans e2
  exact pair_new k h1 h2 h3 (t1.keeps k) (t2.keeps k)
end
section
variable {X : Cx} {a b : Expr} {p pos tpos : Pos} {fs : DA} {elts : List Expr} {kk : Nat}
theorem pid_zip (hG : Gl X "zip") (hm : X.mg "zip" = none) (ha : PAD X [a, b] fs) (hs : starEach [a, b] X.env = (false, eval a X.env) :: starEach [b] X.env := by rfl) (hpl : (backTo pos (starEach [b] X.env)).any (·.1) = false := by rfl) :
    PID X (.Tuple elts kk tpos) (.Call (.Name "zip" p) [a, b] [] pos) (dZip fs) := fun g hg => (RZ.pi_zipA hG hm (ha g hg) hs hpl).wk fun σ H R t => by
  obtain ⟨F, ρ, r, ds, ρ', e, q⟩ := t
  obtain ⟨⟨ws, ρ1⟩, e1, e⟩ := Option.bind_eq_some_iff.mp e
  obtain ⟨⟨us, ρ2⟩, e2, e⟩ := Option.bind_eq_some_iff.mp e
  refine ⟨F, ρ, r, ws, ρ1, e1, fun vs H1 F1 p1 => ?_⟩
  obtain ⟨F2, p2, d⟩ := p1.gives e2
  simp only at e
  split at e
  · cases e
    cases d with
    | cons d1 d =>
      cases d with
      | cons d2 d =>
        cases d
        cases d1 with
        | lst f1 r1 t1 =>
          cases d2 with
          | lst f2 r2 t2 => exact ⟨_, _, _, _, rfl, .inl ⟨.inl r1, .inl r2, by rw [← hg]; exact q _ H1 F2 p2 (itOk_zipL f1 r1 t1 f2 r2 t2)⟩⟩
  · cases e
    cases d with
    | cons d1 d =>
      cases d with
      | cons d2 d =>
        cases d
        cases d1 with
        | tup r1 t1 =>
          cases d2 with
          | tup r2 t2 => exact ⟨_, _, _, _, rfl, .inr ⟨hg ▸ r1, hg ▸ r2, by rw [← hg]; exact q _ H1 F2 p2 (itOk_zipT r1 t1 r2 t2)⟩⟩
  · cases e
end

/-! ### enumerate of a tuple -/
set_option maxHeartbeats 1000000 in
theorem meets_enum_newT {v : Value} {o : Obj} {Hh : Heap → Prop} (B : Begins v o Hh) :
    Meets (Builtin.«enumerate.__new__» ⟨[.type "enumerate", v], []⟩) (fun _ R s => Hh s.heap ∧
      R (.ok (.ret (.ref (s.heap.push o).objs.size))) { s with heap := (s.heap.push o).push { cls := .type "enumerate", data := .fields #[.none, .bool false, .ref s.heap.objs.size, rawInt 0, .none, .none] } }) :=
  .of_wp fun prog w A R s h => by
    obtain ⟨hp, g, d, tk, os⟩ := s
    obtain ⟨h1, h⟩ := h
    have hsub := sub_enumerate
    have q1 : ∀ {A' : Around} {E : Value → Shared → Prop} {Q : Value → Shared → Prop}, Q (.ref hp.objs.size) ⟨hp.push o, g, d, tk, os⟩ → wpAny (model prog w) A' (pyIter v) Q E ⟨hp, g, d, tk, os⟩ :=
      fun q => B.iter prog w _ _ ⟨hp, g, d, tk, os⟩ _ h1 q
    wp_walk using q1
    refine wpAny_stack_any fun st => wpAny_pure ?_
    split
    · rename_i c _ _ _ _ _
      cases (c == Value.type "enumerate")
      all_goals (wp_walk using q1; exact ⟨_, rfl, h⟩)
    · wp_walk using q1
      exact ⟨_, rfl, h⟩
section
variable {prog : Program} {w : World} {A : Around} {E : Value → Shared → Prop} {s : Shared}
theorem enum_starts {v : Value} {o : Obj} {Hh : Heap → Prop} {Q : Value → Shared → Prop} (B : Begins v o Hh) (h1 : Hh s.heap)
    (h : ∀ h', IsEnum h' (s.heap.objs.size + 1) s.heap.objs.size 0 .none → h'.get? s.heap.objs.size = some o → (∀ b u, s.heap.get? b = some u → h'.get? b = some u) → Q (.ref (s.heap.objs.size + 1)) { s with heap := h' }) :
    wpAny (model prog w) A (call (.type "enumerate") [v]) Q E s := by
  refine callType_new F.called_enumerate (by decide) (F.typeCall_enumerate_1 _) (F.newCall_enumerate_1 _) (fun obj => F.args_object_init_2 obj _) F.entry_enumerate_new (meets_enum_newT B) ⟨h1, ?_⟩
  have hz : (s.heap.push o).objs.size = s.heap.objs.size + 1 := by rw [Heap.size_push]
  show _ ∧ _
  rw [hz]
  have he : IsEnum ((s.heap.push o).push { cls := .type "enumerate", data := .fields #[.none, .bool false, .ref s.heap.objs.size, rawInt 0, .none, .none] }) (s.heap.objs.size + 1) s.heap.objs.size 0 .none := by
    have z := Heap.get?_push_size (s.heap.push o) (o := { cls := .type "enumerate", data := .fields #[.none, .bool false, .ref s.heap.objs.size, rawInt 0, .none, .none] }) rfl
    rw [hz] at z
    exact z
  exact ⟨⟨_, he, rfl⟩, h _ he (Heap.get?_push_of_some _ (Heap.get?_push_size _ B.free)) fun b u x => Heap.get?_push_of_some _ (Heap.get?_push_of_some _ x)⟩
end
/-- the tuple at a as it stands at each turn, each item in a new pair -/
def ItEnT (K : PySem.W.Frag) (a : Addr) : It :=
  ⟨fun i H => ∃ (xs : List V) (x : V), SqT K H a xs ∧ xs[i]? = some x, fun i H v H' => ∃ T x, v = .ref T ∧ H T = none ∧ H' = upd H T (.tup [.int (i : Nat), x]) ∧ ∀ xs, SqT K H a xs → xs[i]? = some x, fun i H => ∃ xs : List V, SqT K H a xs ∧ xs.length = i⟩
theorem turn_enT {P : Program} {w : World} {K : PySem.W.Frag} {elts : List Expr} {kk : Nat} {tpos : Pos} (a e it : Addr) :
    Turn P w K (.Tuple elts kk tpos) (ItEnT K a) [e, it] e (fun i h => (∃ old, IsEnum h e it ((0 : Int) + (i : Int)) old) ∧ h.IsTupleIter it a i ∧ e ≠ it ∧ a ≠ e ∧ a ≠ it) where
  mem := by simp
  obj := fun i h st b hb => by
    obtain ⟨⟨old, he⟩, ⟨o, ho, _, hd⟩, _⟩ := st
    have e' : b = e ∨ b = it := by simpa using hb
    rcases e' with z | z
    · subst z; exact ⟨_, he, fun v q => nomatch q⟩
    · subst z; exact ⟨o, ho, fun v q => by rw [hd] at q; cases q⟩
  keep := fun i h h' st k => by
    obtain ⟨⟨old, he⟩, hi, ne⟩ := st
    exact ⟨⟨old, k e (by simp) _ he⟩, hi.at fun o q => k it (by simp) o q, ne⟩
  item := by
    intro X hP hw hK hc i pins s σ H E I hf st hg
    subst hP hw hK
    obtain ⟨⟨old, he⟩, hit, n1, n2, n3⟩ := st
    obtain ⟨xs, x, hq, hx⟩ := hg
    obtain ⟨its, rv, pl, hz⟩ := I.tuple hq
    have hi : i < its.toArray.size := by
      have := (List.getElem?_eq_some_iff.mp hx).1
      rw [List.size_toArray, ← rv.length]
      exact this
    have W := GoesN.enumFrom (prog := X.prog) (w := X.w) (A := X.A) (elts := elts) (x1 := kk) (pos := tpos) 0 (Draws.tuple (A := X.A.in1) (I.ok.hd hc) it a n3 its.toArray) e n1 (by simp only [List.mem_cons, List.not_mem_nil, or_false, not_or]; exact ⟨n1, Ne.symm n2⟩) (by simp)
    have hel : e < s.heap.objs.size := Heap.lt_size he
    have hil : it < s.heap.objs.size := by obtain ⟨_, q, _⟩ := hit; exact Heap.lt_size q
    refine W.goes i s _ _ hi ⟨⟨old, he⟩, hit, pl⟩ fun v h' tk hY hst hk htk => ?_
    obtain ⟨T, t, y, hv, hT, hy, hTT⟩ := hY
    subst hv
    obtain ⟨u, hu, ru⟩ := rv.get hx
    have hyu : y = u := by
      have z : its[i]? = some y := by simpa using hy
      rw [hu] at z
      exact (Option.some.inj z).symm
    subst hyu
    have new : ObjOk X.prog X.w (upd H T (.tup [.int (i : Nat), x])) h' T (.tup [.int (i : Nat), x]) :=
      ⟨by show 2 ≤ sizeLine; decide, [.int (0 + (i : Int)) t, y], .cons ⟨t, by rw [Int.zero_add]⟩ (.cons ru .nil), hTT⟩
    have I1 : Inv X pins σ (upd H T (.tup [.int (i : Nat), x])) { s with heap := h', toks := tk } := I.turnedNew (ch := [e, it]) hk hf hT new
    refine ⟨.ref T, _, I1, rfl, ⟨T, x, rfl, I.hok.fresh hT, rfl, fun ys hys => by rw [I.tuple_inj hys hq]; exact hx⟩, ⟨hst.1, hst.2.1, n1, n2, n3⟩, fun b hb => ?_⟩
    have hb' : b < s.heap.objs.size := by
      have e' : b = e ∨ b = it := by simpa using hb
      rcases e' with z | z
      · subst z; exact hel
      · subst z; exact hil
    rw [upd_ne (Nat.ne_of_lt (Nat.lt_of_lt_of_le hb' hT))]
    exact (hf b hb).1
  done := by
    intro X hP hw hK hc i pins s σ H E I hf st hg
    subst hP hw hK
    obtain ⟨⟨old, he⟩, hit, n1, n2, n3⟩ := st
    obtain ⟨xs, hq, hx⟩ := hg
    obtain ⟨its, rv, pl, hz⟩ := I.tuple hq
    have hi : i = its.toArray.size := by rw [List.size_toArray, ← rv.length, hx]
    have W := GoesN.enumFrom (prog := X.prog) (w := X.w) (A := X.A) (elts := elts) (x1 := kk) (pos := tpos) 0 (Draws.tuple (A := X.A.in1) (I.ok.hd hc) it a n3 its.toArray) e n1 (by simp only [List.mem_cons, List.not_mem_nil, or_false, not_or]; exact ⟨n1, Ne.symm n2⟩) (by simp)
    subst hi
    have hel : e < s.heap.objs.size := Heap.lt_size he
    refine thn (W.stops s (fun s' => Inv X pins σ H s') _ ⟨⟨old, he⟩, hit, pl⟩ fun h' tk hk htk => ?_) fun _ _ z => z
    have nt : ∀ b u, H b = some u → b ∉ [e, it] := fun b u z m => by
      have := (hf b m).1
      rw [z] at this
      cases this
    refine I.step (g' := s.gens) (d' := s.drawn) (ch := [e, it]) (fun b hb => ⟨(hf b hb).2.2.2.1, (hf b hb).2.1, (hf b hb).2.2.2.2.1, (hf b hb).2.2.2.2.2⟩) (fun b o _ _ hc z _ => hk b o hc z) (fun b o _ _ hc z _ => ⟨o.slots, hk b o hc z⟩) (fun _ _ _ _ n => n)
      (fun b o hc z => ⟨o, hk b o hc z⟩) (fun _ _ z => z) (fun _ _ _ z => z) (fun b ps z => ⟨#[], by rw [z]; simp⟩) (fun m hm => ?_) (fun b u z => ?_) I.bare
    · obtain ⟨o, es, ep, ho, rr⟩ := hm
      refine ⟨o, es, ep, hk _ o (fun m => ?_) ho, rr⟩
      exact (hf _ m).2.1 rfl
    · refine (I.hok b u z).stay (fun c v hc q => hk c v ?_ q) (fun _ q => q) fun _ _ q => q
      rcases hc with y | y
      · subst y; exact nt _ u z
      · exact nt c _ y
  self := fun A i s Q E st h => by
    obtain ⟨⟨_, he⟩, _⟩ := st
    exact wpAny_pyIter_enum he h
def enD (xs : List D) : List D := zipD ((List.range xs.length).map fun (i : Nat) => PyData.int (i : Int)) xs
def dEnum (fa : DE) : DI := fun ρ => (fa ρ).bind fun x => (x.1.give x.2).bind fun y => match y.1 with
  | .list xs => some (enD xs, y.2)
  | .tuple xs => some (enD xs, y.2)
  | _ => none
section
variable {K : PySem.W.Frag} {F : Rg} {H : Hp} {a : Addr} {xs : List V} {ds : List D}
theorem enD_get {i : Nat} {d : D} (h : (enD ds)[i]? = some d) : ∃ y, ds[i]? = some y ∧ d = .tuple [.int (i : Int), y] := by
  obtain ⟨x, y, h1, h2, rfl⟩ := zip_get h
  rw [List.getElem?_map] at h1
  obtain ⟨j, h3, h4⟩ := Option.map_eq_some_iff.mp h1
  obtain ⟨hl, e⟩ := List.getElem?_eq_some_iff.mp h3
  rw [List.getElem_range] at e
  subst e h4
  exact ⟨y, h2, rfl⟩
theorem enD_length : (enD ds).length = ds.length := by
  unfold enD zipD
  rw [List.length_zipWith, List.length_map, List.length_range, Nat.min_self]
theorem itOk_enT (ra : SqT K H a xs) (hd : Dts K F H ds xs) : ItOk K F H (ItEnT K a) (enD ds) := by
  refine ⟨fun H2 => SqT K H2 a xs, YPair (fun i => some (.int (i : Nat))) (fun i => xs[i]?), ⟨fun i _ hi q => ?_, fun _ q => ⟨xs, q, by rw [enD_length, hd.length]⟩, fun i H v H' _ q y => ?_⟩, fun F2 H2 k => k.sqt ra, fun i d F2 H2 x H3 e k y => ?_⟩
  · rw [enD_length, hd.length] at hi
    exact ⟨xs, xs[i], q, List.getElem?_eq_getElem _⟩
  · obtain ⟨T, x, h1, h2, h3, h4⟩ := y
    exact ⟨T, _, x, h1, h2, h3, rfl, h4 xs q⟩
  · obtain ⟨T, u, v, h1, h2, h3, h4, h5⟩ := y
    obtain ⟨z, g2, rfl⟩ := enD_get e
    obtain ⟨v', e2, t2⟩ := hd.get g2
    cases h5.symm.trans e2
    cases h4
    exact pair_new k h1 h2 h3 (.int _) (t2.keeps k)
theorem itOk_enL (hf : F a) (ra : Rd H a (.lst xs)) (hd : Dts K F H ds xs) : ItOk K F H (Ite K a) (enD ds) := by
  refine ⟨fun H2 => SqL K H2 a xs, _, by rw [enD_length, hd.length]; exact walk_enum, fun F2 H2 k => .inl (k.obj a _ hf ra), fun i d F2 H2 x H3 e k y => ?_⟩
  obtain ⟨T, u, v, h1, h2, h3, h4, h5⟩ := y
  obtain ⟨z, g2, rfl⟩ := enD_get e
  obtain ⟨v', e2, t2⟩ := hd.get g2
  cases h5.symm.trans e2
  cases h4
  exact pair_new k h1 h2 h3 (.int _) (t2.keeps k)
end
section
variable {X : Cx} {a : Expr} {p pos tpos : Pos} {fa : DE} {elts : List Expr} {kk : Nat}
theorem pid_enum (hG : Gl X "enumerate") (hm : X.mg "enumerate" = none) (ha : PED X a fa) (hs : starEach [a] X.env = [(false, eval a X.env)] := by rfl) (h1 : starEach [a] X.env = (false, eval a X.env) :: starEach [] X.env := by rfl) :
    PID X (.Tuple elts kk tpos) (.Call (.Name "enumerate" p) [a] [] pos) (dEnum fa) := fun g hg => ⟨fun pins s σ H R I t => by
  obtain ⟨F, ρ, r, ds, ρ', e, q⟩ := t
  obtain ⟨⟨x, ρ1⟩, e1, e⟩ := Option.bind_eq_some_iff.mp e
  obtain ⟨⟨d, ρ2⟩, e2, e⟩ := Option.bind_eq_some_iff.mp e
  have hA : PA X [a] (fun σ' H' Q => σ' = σ ∧ H' = H ∧ ∀ v H1, (∃ F2, TPo g F ρ σ H F2 ρ2 H1 ∧ Dt g.K F2 H1 d v) → Q [v] H1) := (pa_cons (ha g hg) pa_nil h1).wk fun σ' H' Q z => by
    obtain ⟨rfl, rfl, z⟩ := z
    exact ⟨F, ρ, r, x, ρ1, e1, fun v H1 F1 p1 => z v H1 (p1.give e2)⟩
  refine Call_ (ld_blt I hG hm boot_enumerate (PyProof.Rows.callWith_type1 (thn (hA.run pos pins s σ H (fun vs H1 => ∃ v F2, vs = [v] ∧ TPo g F ρ σ H F2 ρ2 H1 ∧ Dt g.K F2 H1 d v) I ⟨rfl, rfl, fun v H1 ⟨F2, z⟩ => ⟨v, F2, rfl, z⟩⟩) fun us s1 ⟨vs, H1, I1, ru, v, F2, hv, p2, h⟩ => ?_) hs rfl))
  subst hv
  obtain ⟨u, rfl, r2⟩ := vals1 ru
  cases h with
  | lst f rr dd =>
    cases e
    cases r2
    obtain ⟨its, rv, pl, hz⟩ := I1.list (.inl rr)
    refine call_enumerate_list pl.isList fun h' he hit hsz hk => wpAny_pyIter_enum he ?_
    have I2 : Inv X pins σ H1 { s1 with heap := h' } := I1.kept (t' := s1.toks) hk
    refine ⟨s1.heap.objs.size + 1, [s1.heap.objs.size + 1, s1.heap.objs.size], _, _, H1, rfl, I2, turn_enum _ (s1.heap.objs.size + 1) s1.heap.objs.size, ⟨⟨.none, he⟩, hit, Nat.succ_ne_self _⟩, fun b hb => ?_, ?_⟩
    · have hle : s1.heap.objs.size ≤ b := by
        have e' : b = s1.heap.objs.size + 1 ∨ b = s1.heap.objs.size := by simpa using hb
        rcases e' with z | z <;> subst z
        · exact Nat.le_succ _
        · exact Nat.le_refl _
      exact I1.fpOk hle (I1.hok.fresh hle)
    · rw [← hg]
      exact q _ H1 F2 p2 (itOk_enL f rr dd)
  | @tup ad _ _ rr dd =>
    cases e
    cases r2
    obtain ⟨its, rv, pl, hz⟩ := I1.tuple (hg ▸ rr)
    have hlt : ad < s1.heap.objs.size := by obtain ⟨o, ho, _⟩ := pl; exact Heap.lt_size ho
    refine enum_starts (begins_tuple _ its.toArray) pl fun h' he hit hk => wpAny_pyIter_enum he ?_
    have I2 : Inv X pins σ H1 { s1 with heap := h' } := I1.kept (t' := s1.toks) hk
    refine ⟨s1.heap.objs.size + 1, [s1.heap.objs.size + 1, s1.heap.objs.size], _, _, H1, rfl, I2, turn_enT _ (s1.heap.objs.size + 1) s1.heap.objs.size, ⟨⟨.none, he⟩, ⟨_, hit, rfl, rfl⟩, Nat.succ_ne_self _, Nat.ne_of_lt (Nat.lt_succ_of_lt hlt), Nat.ne_of_lt hlt⟩, fun b hb => ?_, ?_⟩
    · have hle : s1.heap.objs.size ≤ b := by
        have e' : b = s1.heap.objs.size + 1 ∨ b = s1.heap.objs.size := by simpa using hb
        rcases e' with z | z <;> subst z
        · exact Nat.le_succ _
        · exact Nat.le_refl _
      exact I1.fpOk hle (I1.hok.fresh hle)
    · rw [← hg]
      exact q _ H1 F2 p2 (itOk_enT rr dd)
  | non => cases e
  | bl _ => cases e
  | int _ => cases e
  | str _ => cases e
  | dik _ _ _ => cases e⟩
end
end PD
set_option Elab.async false
set_option linter.all false
set_option maxRecDepth 100000
set_option maxHeartbeats 4000000
/-! PD9: list comprehensions. -/
namespace PD
set_option autoImplicit false
open PySem PySem.Spec L2
open PyProof.Rows hiding St

def restoreS (old : List (Option Sl)) (sl : List (Option Sl)) : List Nat → List (Option Sl)
  | [] => sl
  | v :: vs => (restoreS old sl vs).set v ((old[v]?).getD none)
def lcGo (tg : DG) (ft : DT) (fe : DE) (vs : List Nat) : List D → List D → En → Option (List D × En)
  | [], acc, ρ => some (acc, ρ)
  | d :: ds, acc, ρ => (tg d ρ).bind fun ρ1 => (ft ρ1).bind fun x => if x.1 = true then
      (fe x.2).bind fun y => (y.1.give y.2).bind fun z => (z.2.wipe vs).bind fun ρ5 => lcGo tg ft fe vs ds (acc ++ [z.1]) ρ5
    else (x.2.wipe vs).bind fun ρ5 => lcGo tg ft fe vs ds acc ρ5
def dYes : DT := fun ρ => some (true, ρ)
/-- [fe for tg in fi if ft]: vs the comprehension's own slots -/
def dLc (fi : DI) (tg : DG) (ft : DT) (fe : DE) (vs : List Nat) : DE := fun ρ => (fi ρ).bind fun x => if x.1.length ≤ 16777216 then (x.2.wipe vs).bind fun ρw => (lcGo tg ft fe vs x.1 [] ρw).map fun y => (.fr (.list y.1), { y.2 with sl := restoreS x.2.sl y.2.sl vs }) else none

section
variable {g : G} {F F1 F2 F' : Rg} {ρ ρ1 ρ2 ρ' : En} {σ σ1 σ2 σ' : St} {H H1 H2 H' : Hp} {vs : List Nat} {B : Addr} {xs ys : List V}
theorem restoreS_length (old sl : List (Option Sl)) : ∀ vs : List Nat, (restoreS old sl vs).length = sl.length
  | [] => rfl
  | v :: vs => by unfold restoreS; rw [List.length_set, restoreS_length old sl vs]
theorem restoreS_out {old sl : List (Option Sl)} {i : Nat} : ∀ {vs : List Nat}, i ∉ vs → (restoreS old sl vs)[i]? = sl[i]?
  | [], _ => rfl
  | v :: vs, h => by
    unfold restoreS
    rw [List.getElem?_set_ne (fun e => h (by rw [e]; exact List.mem_cons_self)), restoreS_out fun m => h (List.mem_cons_of_mem _ m)]
theorem restoreS_in {old sl : List (Option Sl)} {i : Nat} (hl : old.length = sl.length) : ∀ {vs : List Nat}, i ∈ vs → (restoreS old sl vs)[i]? = old[i]?
  | v :: vs, h => by
    unfold restoreS
    by_cases e : v = i
    · subst e
      by_cases hi : v < sl.length
      · rw [List.getElem?_set_self (by rw [restoreS_length]; exact hi), List.getElem?_eq_getElem (by omega)]
        rfl
      · rw [List.getElem?_eq_none (by rw [List.length_set, restoreS_length]; omega), List.getElem?_eq_none (by omega)]
    · rw [List.getElem?_set_ne e]
      refine restoreS_in hl ?_
      rcases List.mem_cons.mp h with z | z
      · exact absurd z.symm e
      · exact z
theorem wipe_in {i : Nat} : ∀ {vs : List Nat}, i ∈ vs → (wipe σ vs)[i]? = if i < σ.length then some none else none
  | v :: vs, h => by
    unfold wipe
    by_cases e : v = i
    · subst e
      by_cases hl : v < σ.length
      · rw [if_pos hl, List.getElem?_set_self (by rw [wipe_length]; exact hl)]
      · rw [if_neg hl, List.getElem?_eq_none (by rw [List.length_set, wipe_length]; omega)]
    · rw [List.getElem?_set_ne e]
      refine wipe_in ?_
      rcases List.mem_cons.mp h with z | z
      · exact absurd z.symm e
      · exact z
theorem wipe_idem (σ : St) (vs : List Nat) : wipe (wipe σ vs) vs = wipe σ vs := by
  refine List.ext_getElem? fun i => ?_
  by_cases h : i ∈ vs
  · rw [wipe_in h, wipe_in h, wipe_length]
  · rw [wipe_out h]
theorem wipe_get {i : Nat} (h : i ∉ vs) : (wipe σ vs)[i]? = σ[i]? := wipe_out h
theorem Rel.poke (r : Rel g F ρ σ H) (hF : ¬ F B) (ho : ¬ OwnAt ρ σ B) (h0 : g.H0 B = none) (hB : H B = some (.lst xs)) : Rel g F ρ σ (upd H B (.lst ys)) := by
  have k : Keeps F F H (upd H B (.lst ys)) := ⟨fun _ h => h, fun b zs e => by
      rw [upd_ne (fun z => by subst z; rw [hB] at e; cases e)]; exact e, fun b o zs e => by
      rw [upd_ne (fun z => by subst z; rw [hB] at e; cases e)]; exact e, fun b u f e => by
      have ne : b ≠ B := fun z => hF (z ▸ f)
      rcases e with e | ⟨o, e⟩
      · exact .inl (by rw [upd_ne ne]; exact e)
      · exact .inr ⟨o, by rw [upd_ne ne]; exact e⟩⟩
  refine ⟨r.len, fun i d e => ?_, fun i d e => ?_, r.dist, r.cupT, r.cupF, r.F0, r.Fn, fun a f z => ?_, fun a o e n => ?_⟩
  · obtain ⟨v, e1, h⟩ := r.sh i d e
    exact ⟨v, e1, h.keeps k⟩
  · obtain ⟨a, e1, o, n, f⟩ := r.own i d e
    have ne : a ≠ B := fun z => ho ⟨i, d, e, z ▸ e1⟩
    exact ⟨a, e1, o.keeps k (fun u eu => by rw [upd_ne ne]; exact eu), n, f⟩
  · have ne : a ≠ B := fun z => hF (z ▸ f)
    rw [upd_ne ne] at z
    exact r.Fs a f z
  · have ne : a ≠ B := fun z => by rw [z, h0] at e; cases e
    rw [upd_ne ne]
    exact r.base a o e n
theorem Post.poke (p : Post g F ρ σ H F1 ρ1 σ1 H1) (hn : H B = none) (hF : ¬ F1 B) (ho : ¬ OwnAt ρ1 σ1 B) (h0 : g.H0 B = none) (hB : H1 B = some (.lst xs)) : Post g F ρ σ H F1 ρ1 σ1 (upd H1 B (.lst ys)) :=
  ⟨p.rel.poke hF ho h0 hB, p.mono, fun b o e n => by
    rw [upd_ne (fun z => by subst z; rw [hn] at e; cases e)]
    exact p.kept b o e n, fun b h => by
    by_cases z : b = B
    · subst z; exact absurd hn h
    · rw [upd_ne z]; exact p.there b h, p.newF, p.newO⟩
theorem poke_keeps (hF : ¬ F B) (hB : H B = some (.lst xs)) : Keeps F F H (upd H B (.lst ys)) :=
  ⟨fun _ h => h, fun b zs e => by rw [upd_ne (fun z => by subst z; rw [hB] at e; cases e)]; exact e, fun b o zs e => by rw [upd_ne (fun z => by subst z; rw [hB] at e; cases e)]; exact e, fun b u f e => by
    have ne : b ≠ B := fun z => hF (z ▸ f)
    rcases e with e | ⟨o, e⟩
    · exact .inl (by rw [upd_ne ne]; exact e)
    · exact .inr ⟨o, by rw [upd_ne ne]; exact e⟩⟩
/-- a block is left: its own slots are what they were outside -/
theorem block_end (r1 : Rel g F1 ρ1 σ H1) (hc : ¬ (ρ1.cup = true ∧ 0 ∈ vs)) (p : Post g F1 { ρ1 with sl := wipeS ρ1.sl vs } (wipe σ vs) H1 F2 ρ2 (wipe σ vs) H2) (hcup : ρ2.cup = ρ1.cup)
    (shr : ∀ b, OwnAt ρ2 (wipe σ vs) b → OwnAt { ρ1 with sl := wipeS ρ1.sl vs } (wipe σ vs) b) (pres : ∀ (i : Nat) (s : Sl), i ∉ vs → ρ1.sl[i]? = some (some s) → ∃ s', ρ2.sl[i]? = some (some s')) :
    TPo g F1 ρ1 σ H1 F2 { ρ2 with sl := restoreS ρ1.sl ρ2.sl vs } H2 := by
  have hσ : ∀ (i : Nat), i ∉ vs → (wipe σ vs)[i]? = σ[i]? := fun i h => wipe_get h
  have rw1 : Rel g F1 { ρ1 with sl := wipeS ρ1.sl vs } (wipe σ vs) H1 := r1.wiped (wipe_length _ _) hσ hc
  have r2 := p.rel
  have kp := p.keeps rw1
  have hlen : ρ1.sl.length = ρ2.sl.length := by rw [r1.len, r2.len, wipe_length]
  have out : ∀ {i : Nat}, i ∉ vs → (restoreS ρ1.sl ρ2.sl vs)[i]? = ρ2.sl[i]? := fun h => restoreS_out h
  have inn : ∀ {i : Nat}, i ∈ vs → (restoreS ρ1.sl ρ2.sl vs)[i]? = ρ1.sl[i]? := fun h => restoreS_in hlen h
  -- an own object of a forgotten slot is nobody's inside
  have nobody : ∀ {i : Nat} {d : D} {a : Addr}, i ∈ vs → ρ1.sl[i]? = some (some (.own d)) → σ[i]? = some (some (.ref a)) → ¬ OwnAt { ρ1 with sl := wipeS ρ1.sl vs } (wipe σ vs) a := fun {i d a} hi e1 e2 z => by
    obtain ⟨j, d', k1, k2⟩ := z
    obtain ⟨k3, nj⟩ := wipeS_some k1
    rw [hσ j nj] at k2
    have := r1.dist i j d d' a e1 k3 e2 k2
    subst this
    exact nj hi
  have own2 : ∀ b, OwnAt { ρ2 with sl := restoreS ρ1.sl ρ2.sl vs } σ b → OwnAt ρ1 σ b := fun b z => by
    obtain ⟨i, d, e1, e2⟩ := z
    by_cases hi : i ∈ vs
    · rw [show (restoreS ρ1.sl ρ2.sl vs)[i]? = ρ1.sl[i]? from inn hi] at e1
      exact ⟨i, d, e1, e2⟩
    · rw [show (restoreS ρ1.sl ρ2.sl vs)[i]? = ρ2.sl[i]? from out hi] at e1
      exact ownAt_wiped hσ (shr b ⟨i, d, e1, by rw [hσ i hi]; exact e2⟩)
  refine ⟨⟨⟨by show (restoreS ρ1.sl ρ2.sl vs).length = _; rw [restoreS_length, ← hlen]; exact r1.len, fun i d e => ?_, fun i d e => ?_, fun i j d e a h1 h2 h3 h4 => ?_, fun h => ?_, r2.cupF, r2.F0, r2.Fn, r2.Fs, r2.base⟩, p.mono, fun b o e n => p.kept b o e fun z => n (ownAt_wiped hσ z), p.there, fun b h => ?_, fun b h => .inl (own2 b h)⟩, fun i s e => ?_, own2⟩
  · by_cases hi : i ∈ vs
    · rw [show (restoreS ρ1.sl ρ2.sl vs)[i]? = ρ1.sl[i]? from inn hi] at e
      obtain ⟨v, e1, h⟩ := r1.sh i d e
      exact ⟨v, e1, h.keeps kp⟩
    · rw [show (restoreS ρ1.sl ρ2.sl vs)[i]? = ρ2.sl[i]? from out hi] at e
      obtain ⟨v, e1, h⟩ := r2.sh i d e
      exact ⟨v, by rw [← hσ i hi]; exact e1, h⟩
  · by_cases hi : i ∈ vs
    · rw [show (restoreS ρ1.sl ρ2.sl vs)[i]? = ρ1.sl[i]? from inn hi] at e
      obtain ⟨a, e1, o, n, f⟩ := r1.own i d e
      have nb := nobody hi e e1
      refine ⟨a, e1, o.keeps kp (fun u eu => p.kept a u eu nb), fun z => ?_, f⟩
      rcases p.newF a z with y | y | y
      · exact n y
      · obtain ⟨u, eu, _⟩ := o.mut
        rw [eu] at y
        cases y
      · exact nb y
    · rw [show (restoreS ρ1.sl ρ2.sl vs)[i]? = ρ2.sl[i]? from out hi] at e
      obtain ⟨a, e1, h⟩ := r2.own i d e
      exact ⟨a, by rw [← hσ i hi]; exact e1, h⟩
  · by_cases hi : i ∈ vs
    · rw [show (restoreS ρ1.sl ρ2.sl vs)[i]? = ρ1.sl[i]? from inn hi] at h1
      by_cases hj : j ∈ vs
      · rw [show (restoreS ρ1.sl ρ2.sl vs)[j]? = ρ1.sl[j]? from inn hj] at h2
        exact r1.dist i j d e a h1 h2 h3 h4
      · rw [show (restoreS ρ1.sl ρ2.sl vs)[j]? = ρ2.sl[j]? from out hj] at h2
        exact absurd (shr a ⟨j, e, h2, by rw [hσ j hj]; exact h4⟩) (nobody hi h1 h3)
    · rw [show (restoreS ρ1.sl ρ2.sl vs)[i]? = ρ2.sl[i]? from out hi] at h1
      by_cases hj : j ∈ vs
      · rw [show (restoreS ρ1.sl ρ2.sl vs)[j]? = ρ1.sl[j]? from inn hj] at h2
        exact absurd (shr a ⟨i, d, h1, by rw [hσ i hi]; exact h3⟩) (nobody hj h2 h4)
      · rw [show (restoreS ρ1.sl ρ2.sl vs)[j]? = ρ2.sl[j]? from out hj] at h2
        exact r2.dist i j d e a h1 h2 (by rw [hσ i hi]; exact h3) (by rw [hσ j hj]; exact h4)
  · obtain ⟨c, d, c1, c2, c3⟩ := r2.cupT h
    have n0 : 0 ∉ vs := fun z => hc ⟨by rw [← hcup]; exact h, z⟩
    exact ⟨c, d, c1, by rw [← hσ 0 n0]; exact c2, by show (restoreS ρ1.sl ρ2.sl vs)[0]? = _; rw [out n0]; exact c3⟩
  · rcases p.newF b h with z | z | z
    · exact .inl z
    · exact .inr (.inl z)
    · exact .inr (.inr (ownAt_wiped hσ z))
  · by_cases hi : i ∈ vs
    · exact ⟨s, by show (restoreS ρ1.sl ρ2.sl vs)[i]? = _; rw [inn hi]; exact e⟩
    · obtain ⟨s', e'⟩ := pres i s hi e
      exact ⟨s', by show (restoreS ρ1.sl ρ2.sl vs)[i]? = _; rw [out hi]; exact e'⟩
theorem Rel.cup_eq (r1 : Rel g F1 ρ1 σ1 H1) (r2 : Rel g F2 ρ2 σ2 H2) : ρ1.cup = ρ2.cup := by
  cases h1 : ρ1.cup with
  | true =>
    obtain ⟨c, d, c1, _⟩ := r1.cupT h1
    cases h2 : ρ2.cup with
    | true => rfl
    | false => rw [r2.cupF h2] at c1; cases c1
  | false =>
    cases h2 : ρ2.cup with
    | false => rfl
    | true =>
      obtain ⟨c, d, c1, _⟩ := r2.cupT h2
      rw [r1.cupF h1] at c1
      cases c1
end

/-- the tests of a comprehension's clause -/
def PTsD (X : Cx) (ifs : List Expr) (f : DT) : Prop := ∀ g : G, g.K = X.K → PTs X ifs (tT g f)
section
variable {X : Cx} {pos : Pos} {elt tg iter c : Expr} {ifs : List Expr} {scope : Scope} {own : List (Str × Nat)} {fi : DI} {ft : DT} {fe : DE} {fg : DG} {is : List Nat}
theorem ptsd_nil : PTsD X [] dYes := fun g hg => ⟨fun pins s σ H Q I t => by
  obtain ⟨F, ρ, r, b, ρ', e, q⟩ := t
  cases e
  exact pts_nil.run pins s σ H Q I (q H F (TPo.refl r))⟩
theorem ptsd_one (h : PTD X c ft) : PTsD X [c] ft := fun g hg => pts_one (h g hg)
theorem lc_ok {g : G} (hsub : ∀ i ∈ is, i ∈ own.map (·.2)) {σ : St} {H : Hp} {Q : VK} (t : tE g (dLc fi fg ft fe (own.map (·.2))) σ H Q) : tLc (tI g fi) (tG g fg is) (tT g ft) (tE g fe) (own.map (·.2)) σ H Q := by
  obtain ⟨F, ρ, r, w, ρ', e, q⟩ := t
  obtain ⟨⟨ds, ρ1⟩, e1, e⟩ := Option.bind_eq_some_iff.mp e
  split at e
  · rename_i hlen
    obtain ⟨ρw, ew, e⟩ := Option.bind_eq_some_iff.mp e
    obtain ⟨⟨acc, ρ2⟩, e2, e⟩ := Option.map_eq_some_iff.mp e
    cases e
    obtain ⟨hc, rfl⟩ := En.wipe_some ew
    refine ⟨F, ρ, r, ds, ρ1, e1, fun J H1 F1 p1 ok B hB => ?_⟩
    have r1 := p1.post.rel
    have hσ : ∀ (i : Nat), i ∉ own.map (·.2) → (wipe σ (own.map (·.2)))[i]? = σ[i]? := fun i h => wipe_get h
    have rw1 : Rel g F1 { ρ1 with sl := wipeS ρ1.sl (own.map (·.2)) } (wipe σ (own.map (·.2))) H1 := r1.wiped (wipe_length _ _) hσ hc
    obtain ⟨Gd, Y, wk, hG, hY⟩ := ok
    have h0 : g.H0 B = none := r1.fresh0 hB
    refine ⟨fun i m H2 => m + i = ds.length ∧ ∃ F2 ρk accD accV, Post g F1 { ρ1 with sl := wipeS ρ1.sl (own.map (·.2)) } (wipe σ (own.map (·.2))) H1 F2 ρk (wipe σ (own.map (·.2))) H2 ∧ H2 B = some (.lst accV) ∧ Dts g.K F2 H2 accD accV ∧ ¬ F2 B ∧ accD.length ≤ i ∧
      (∀ b, OwnAt ρk (wipe σ (own.map (·.2))) b → OwnAt { ρ1 with sl := wipeS ρ1.sl (own.map (·.2)) } (wipe σ (own.map (·.2))) b) ∧ (∀ (i : Nat) (s : Sl), i ∉ own.map (·.2) → ρ1.sl[i]? = some (some s) → ∃ s', ρk.sl[i]? = some (some s')) ∧
      lcGo fg ft fe (own.map (·.2)) (ds.drop i) accD ρk = some (acc, ρ2), ⟨ds.length, rfl, F1, _, [], [], (TPo.keptAll rw1 (upd_kept hB)).post, upd_same, .nil, rw1.notF hB, Nat.le_refl _, fun _ h => h, fun i s hi e => ⟨s, by show (wipeS ρ1.sl _)[i]? = _; rw [wipeS_out hi]; exact e⟩, by rw [List.drop_zero]; exact e2⟩, ?_⟩
    rintro i m H2 ⟨hm, F2, ρk, accD, accV, p2, hD, hd, nF, hl, shr, pres, e3⟩
    have r2 := p2.rel
    have nO : ¬ OwnAt ρk (wipe σ (own.map (·.2))) B := fun z => rw1.notOwnN hB (shr B z)
    have gd := hG F2 H2 (p2.keeps rw1)
    by_cases hi : i < ds.length
    · refine .inr ⟨wk.goes i H2 hi gd, fun H3 => ∃ F3 ρ3 accD accV, Post g F1 { ρ1 with sl := wipeS ρ1.sl (own.map (·.2)) } (wipe σ (own.map (·.2))) H1 F3 ρ3 (wipe σ (own.map (·.2))) H3 ∧ H3 B = some (.lst accV) ∧ Dts g.K F3 H3 accD accV ∧ ¬ F3 B ∧ accD.length ≤ i + 1 ∧
        (∀ b, OwnAt ρ3 (wipe σ (own.map (·.2))) b → OwnAt { ρ1 with sl := wipeS ρ1.sl (own.map (·.2)) } (wipe σ (own.map (·.2))) b) ∧ (∀ (i : Nat) (s : Sl), i ∉ own.map (·.2) → ρ1.sl[i]? = some (some s) → ∃ s', ρ3.sl[i]? = some (some s')) ∧
        lcGo fg ft fe (own.map (·.2)) (ds.drop (i + 1)) accD ρ3 = some (acc, ρ2), fun H3 z => ?_, fun x H3 y => ?_⟩
      · obtain ⟨F3, ρ3, a1, a2, z1, z2, z3, z4, z5, z6, z7, z8⟩ := z
        exact ⟨m - 1, by omega, by omega, F3, ρ3, a1, a2, z1, z2, z3, z4, z5, z6, z7, z8⟩
      have ed : ds.drop i = ds[i] :: ds.drop (i + 1) := List.drop_eq_getElem_cons hi
      rw [ed] at e3
      obtain ⟨ρ3, e4, e3⟩ := Option.bind_eq_some_iff.mp e3
      obtain ⟨⟨b, ρ4⟩, e5, e3⟩ := Option.bind_eq_some_iff.mp e3
      obtain ⟨tn, dn⟩ := (hY i ds[i] F2 H2 x H3 (List.getElem?_eq_getElem hi) (p2.keeps rw1) (wk.yields i H2 x H3 hi gd y)).tpo r2
      refine ⟨F2, ρk, ds[i], tn.post.rel, dn, ρ3, e4, fun σ4 r4 o4 y4 z4 => ⟨(y4 _ hsub).trans (wipe_idem _ _), F2, ρ3, r4, b, ρ4, e5, fun H5 F5 p5 => ?_⟩⟩
      have p3 := p2.trans rw1 tn.post
      have p4 : Post g F1 { ρ1 with sl := wipeS ρ1.sl (own.map (·.2)) } (wipe σ (own.map (·.2))) H1 F2 ρ3 σ4 H3 := ⟨r4, p3.mono, p3.kept, p3.there, p3.newF, fun b h => p3.newO b (o4 b h)⟩
      have pp5 := p4.trans rw1 p5.post
      have shr5 : ∀ b, OwnAt ρ4 σ4 b → OwnAt { ρ1 with sl := wipeS ρ1.sl (own.map (·.2)) } (wipe σ (own.map (·.2))) b := fun b h => shr b (o4 b (p5.shr b h))
      have hD3 : H3 B = some (.lst accV) := tn.post.kept B _ hD nO
      have nO3 : ¬ OwnAt ρ3 σ4 B := fun z => nO (o4 B z)
      have hD5 : H5 B = some (.lst accV) := p5.post.kept B _ hD3 nO3
      have hd5 : Dts g.K F5 H5 accD accV := (hd.keeps (tn.post.keeps r2)).keeps (p5.post.keeps r4)
      have nF5 : ¬ F5 B := fun z => by
        rcases p5.post.newF B z with y | y | y
        · exact nF y
        · rw [hD3] at y; cases y
        · exact nO3 y
      have pres5 : ∀ (i : Nat) (s : Sl), i ∉ own.map (·.2) → ρ1.sl[i]? = some (some s) → ∃ s', ρ4.sl[i]? = some (some s') := fun j s hj e => by
        obtain ⟨s1, k1⟩ := pres j s hj e
        obtain ⟨s2, k2⟩ := z4 j s1 (fun z => hj (hsub j z)) k1
        exact p5.pres j s2 k2
      have hσ4 : ∀ (j : Nat), j ∉ own.map (·.2) → (wipe σ (own.map (·.2)))[j]? = σ4[j]? := fun j hj => by
        have z := y4 _ hsub
        have a1 : (wipe (wipe σ (own.map (·.2))) (own.map (·.2)))[j]? = (wipe σ (own.map (·.2)))[j]? := wipe_get hj
        rw [← a1, ← z]
        exact wipe_get hj
      have hln4 : (wipe σ (own.map (·.2))).length = σ4.length := by
        have z := congrArg List.length (y4 _ hsub)
        rw [wipe_length, wipe_length] at z
        exact z.symm
      -- a turn's end: the slots are forgotten
      have fin : ∀ {F6 : Rg} {ρ5 ρ6 : En} {H6 : Hp} {accD' : List D} {accV' : List V}, Post g F1 { ρ1 with sl := wipeS ρ1.sl (own.map (·.2)) } (wipe σ (own.map (·.2))) H1 F6 ρ5 σ4 H6 → H6 B = some (.lst accV') → Dts g.K F6 H6 accD' accV' → ¬ F6 B → accD'.length ≤ i + 1 →
          (∀ b, OwnAt ρ5 σ4 b → OwnAt { ρ1 with sl := wipeS ρ1.sl (own.map (·.2)) } (wipe σ (own.map (·.2))) b) → (∀ (i : Nat) (s : Sl), i ∉ own.map (·.2) → ρ1.sl[i]? = some (some s) → ∃ s', ρ5.sl[i]? = some (some s')) → ρ5.wipe (own.map (·.2)) = some ρ6 →
          lcGo fg ft fe (own.map (·.2)) (ds.drop (i + 1)) accD' ρ6 = some (acc, ρ2) → ∃ F3 ρ3 accD accV, Post g F1 { ρ1 with sl := wipeS ρ1.sl (own.map (·.2)) } (wipe σ (own.map (·.2))) H1 F3 ρ3 (wipe σ (own.map (·.2))) H6 ∧ H6 B = some (.lst accV) ∧ Dts g.K F3 H6 accD accV ∧ ¬ F3 B ∧ accD.length ≤ i + 1 ∧
        (∀ b, OwnAt ρ3 (wipe σ (own.map (·.2))) b → OwnAt { ρ1 with sl := wipeS ρ1.sl (own.map (·.2)) } (wipe σ (own.map (·.2))) b) ∧ (∀ (i : Nat) (s : Sl), i ∉ own.map (·.2) → ρ1.sl[i]? = some (some s) → ∃ s', ρ3.sl[i]? = some (some s')) ∧
        lcGo fg ft fe (own.map (·.2)) (ds.drop (i + 1)) accD ρ3 = some (acc, ρ2) := by
        intro F6 ρ5 ρ6 H6 accD' accV' p6 hD6 hd6 nF6 hl6 shr6 pres6 e6 e7
        obtain ⟨hc6, rfl⟩ := En.wipe_some e6
        have r6 : Rel g F6 { ρ5 with sl := wipeS ρ5.sl (own.map (·.2)) } (wipe σ (own.map (·.2))) H6 := p6.rel.wiped hln4 hσ4 hc6
        exact ⟨F6, _, accD', accV', ⟨r6, p6.mono, p6.kept, p6.there, p6.newF, fun b h => p6.newO b (ownAt_wiped hσ4 h)⟩, hD6, hd6, nF6, hl6, fun b h => shr6 b (ownAt_wiped hσ4 h), fun j s hj e => by
          obtain ⟨s', k⟩ := pres6 j s hj e
          exact ⟨s', by show (wipeS ρ5.sl _)[j]? = _; rw [wipeS_out hj]; exact k⟩, e7⟩
      cases b with
      | false =>
        rw [if_neg (show ¬ (false = true) from Bool.false_ne_true)] at e3
        show (if false = true then _ else _)
        rw [if_neg (show ¬ (false = true) from Bool.false_ne_true)]
        obtain ⟨ρ6, e6, e7⟩ := Option.bind_eq_some_iff.mp e3
        exact fin pp5 hD5 hd5 nF5 (by omega) shr5 pres5 e6 e7
      | true =>
        rw [if_pos rfl] at e3
        show (if true = true then _ else _)
        rw [if_pos rfl]
        obtain ⟨⟨w', ρ5⟩, e6, e3⟩ := Option.bind_eq_some_iff.mp e3
        obtain ⟨⟨d', ρ6⟩, e7, e3⟩ := Option.bind_eq_some_iff.mp e3
        obtain ⟨ρ7, e8, e9⟩ := Option.bind_eq_some_iff.mp e3
        refine ⟨F5, ρ4, p5.post.rel, w', ρ5, e6, fun v H6 F6 p6 => ?_⟩
        obtain ⟨F7, p7, d7⟩ := p6.give e7
        have r5 := p5.post.rel
        have nO5 : ¬ OwnAt ρ4 σ4 B := fun z => nO3 (p5.shr B z)
        have hD6 : H6 B = some (.lst accV) := p7.post.kept B _ hD5 nO5
        have pp7 := pp5.trans rw1 p7.post
        have nF7 : ¬ F7 B := fun z => by
          rcases p7.post.newF B z with y | y | y
          · exact nF5 y
          · rw [hD5] at y; cases y
          · exact nO5 y
        have nO7 : ¬ OwnAt ρ6 σ4 B := fun z => nO5 (p7.shr B z)
        have hd7 : Dts g.K F7 H6 accD accV := hd5.keeps (p7.post.keeps r5)
        have hll := hd7.length
        have pk := poke_keeps (F := F7) (ys := accV ++ [v]) nF7 hD6
        refine ⟨accV, hD6, by rw [sizeLine_eq]; simp only at hlen; omega, fin (pp7.poke hB nF7 nO7 h0 hD6) upd_same ((hd7.append (.cons d7 .nil)).keeps pk) nF7 (by rw [List.length_append, List.length_singleton]; omega) (fun b h => shr5 b (p7.shr b h)) (fun j s hj e => ?_) e8 e9⟩
        obtain ⟨s1, k1⟩ := pres5 j s hj e
        exact p7.pres j s1 k1
    · have hie : i = ds.length := by omega
      subst hie
      rw [List.drop_length] at e3
      cases e3
      refine .inl ⟨wk.stops H2 gd, q _ H2 F2 ⟨p1.trans r (block_end r1 hc p2 (r2.cup_eq r1) shr pres), ⟨B, rfl, .inl ⟨_, _, rfl, hD, hd⟩, nF, fun z => ?_, h0⟩, fun a h => ?_⟩⟩
      · exact r1.notOwnN hB ((block_end r1 hc p2 (r2.cup_eq r1) shr pres).shr B z)
      · obtain ⟨_, h⟩ := h
        cases h
        cases z : H B with
        | none => rfl
        | some u => exact absurd hB (p1.post.there B (by rw [z]; exact fun y => nomatch y))
  · cases e
/-- a comprehension as a value -/
theorem ped_lc (hc : X.calm = true) (hN : X.N.Nodup) (hi : PID X tg iter fi) (ok : BlkOk X.N X.env.scope scope own)
    (hg' : ∀ (s : Shared) (H : Hp) (C : Addr) (cl : List (Str × Addr)) (fp : List Addr), PGD (X.blk s H scope (compEnvC scope cl C X.env) fp) tg fg is) (ht : ∀ (s : Shared) (H : Hp) (C : Addr) (cl : List (Str × Addr)) (fp : List Addr), PTsD (X.blk s H scope (compEnvC scope cl C X.env) fp) ifs ft)
    (he : ∀ (s : Shared) (H : Hp) (C : Addr) (cl : List (Str × Addr)) (fp : List Addr), PED (X.blk s H scope (compEnvC scope cl C X.env) fp) elt fe) (hsub : ∀ i ∈ is, i ∈ own.map (·.2) := by decide) (hs : ∀ x, foldedSetIterable iter X.env x = pure x := by intro _; rfl) :
    PED X (.ListComp elt [⟨tg, iter, ifs, 0⟩] scope pos) (dLc fi fg ft fe (own.map (·.2))) := fun g hg => (pe_lc hc hN (hi g hg) ok (fun s H C cl fp => hg' s H C cl fp g hg) (fun s H C cl fp => ht s H C cl fp g hg) (fun s H C cl fp => he s H C cl fp g hg) hs).wk fun σ H Q t => lc_ok hsub t
/-- name = [..] on one line, the name a local -/
theorem psd_setLc {i : Nat} {y : Str} {py spos : Pos} (hc : X.calm = true) (hN : X.N.Nodup) (hy : X.N[i]? = some y) (hyl : X.env.scope.names.lookup y = some .local) (hsw : swapsWith (.ListComp elt [⟨tg, iter, ifs, 0⟩] scope pos) (some (.Name y py)) spos.line X.env = pure true)
    (hi : PID X tg iter fi) (ok : BlkOk X.N X.env.scope scope own)
    (hg' : ∀ (s : Shared) (H : Hp) (C : Addr) (cl : List (Str × Addr)) (fp : List Addr), PGD (X.blk s H scope (compEnvC scope cl C X.env) fp) tg fg is) (ht : ∀ (s : Shared) (H : Hp) (C : Addr) (cl : List (Str × Addr)) (fp : List Addr), PTsD (X.blk s H scope (compEnvC scope cl C X.env) fp) ifs ft)
    (he : ∀ (s : Shared) (H : Hp) (C : Addr) (cl : List (Str × Addr)) (fp : List Addr), PED (X.blk s H scope (compEnvC scope cl C X.env) fp) elt fe) (hsub : ∀ i ∈ is, i ∈ own.map (·.2) := by decide) (hs : ∀ x, foldedSetIterable iter X.env x = pure x := by intro _; rfl) :
    PSD X (.Assign [.Name y py] (.ListComp elt [⟨tg, iter, ifs, 0⟩] scope pos) spos) (dSet i (dLc fi fg ft fe (own.map (·.2)))) :=
  psd_of_set (te := fun g => tE g (dLc fi fg ft fe (own.map fun (x : Str × Nat) => x.2))) (fun g hg => (ps_setLc hc hN hy hyl hsw (hi g hg) ok (fun s H C cl fp => hg' s H C cl fp g hg) (fun s H C cl fp => ht s H C cl fp g hg) (fun s H C cl fp => he s H C cl fp g hg) hs).wk fun E σ H t => lc_ok (own := own) hsub (show tE g (dLc fi fg ft fe (own.map (·.2))) σ H (fun x H1 => gName i x σ H1 E.nx) from t)) fun _ => rfl
end
end PD
set_option Elab.async false
set_option linter.all false
set_option maxRecDepth 100000
set_option maxHeartbeats 4000000
/-! PD10: defs of the text: what they promise over data, how they are called. -/
namespace PD
set_option autoImplicit false
open PySem PySem.Spec L2
open PyProof.Rows hiding St

/-- a def's result: is its top new, the datum -/
abbrev FS := List D → Option (Bool × D)
/-- .. of a def whose first argument is a list that it changes: behind it, what that list is now -/
abbrev FC := D → List D → Option ((Bool × D) × D)
def RRes (K : PySem.W.Frag) (F' : Rg) (H H' : Hp) (d : D) (v : V) : Bool → Prop
  | true => ∃ a, v = .ref a ∧ Mo K F' H' d a ∧ ¬ F' a ∧ H a = none
  | false => Dt K F' H' d v
def spD (K : PySem.W.Frag) (sem : FS) : Sp := fun vs H Q _ => ∃ (F : Rg) (ds : List D), (∀ a, F a → H a ≠ none) ∧ Dts K F H ds vs ∧ ∃ fr d, sem ds = some (fr, d) ∧
  ∀ v H' (F' : Rg), (∀ a, F a → F' a) → (∀ a, F' a → F a ∨ H a = none) → (∀ a, F' a → H' a ≠ none) → Same H H' → RRes K F' H H' d v fr → Q v H'
def spC (K : PySem.W.Frag) (sem : FC) : Sp := fun vs H Q _ => ∃ (c : Addr) (us : List V) (F : Rg) (cd : D) (ds : List D), vs = .ref c :: us ∧ (∀ a, F a → H a ≠ none) ∧ ¬ F c ∧ Mo K F H cd c ∧ Dts K F H ds us ∧ ∃ fr d cd', sem cd ds = some ((fr, d), cd') ∧
  ∀ v H' (F' : Rg), (∀ a, F a → F' a) → (∀ a, F' a → F a ∨ H a = none) → (∀ a, F' a → H' a ≠ none) → (∀ b o, b ≠ c → H b = some o → H' b = some o) → Mo K F' H' cd' c → ¬ F' c → RRes K F' H H' d v fr → Q v H'

/-! ### from a body -/
def slots (ds : List D) (n : Nat) : List (Option Sl) := ds.map (fun d => some (Sl.sh d)) ++ List.replicate (n - ds.length) none
def endOf : Fl → Option ((Bool × D) × En)
  | .nx ρ => some ((false, .none), ρ)
  | .rt (.sh d) ρ => some ((false, d), ρ)
  | .rt (.fr d) ρ => some ((true, d), ρ)
  | .rt (.vr i) ρ => match ρ.sl[i]? with
    | some (some (.sh d)) => some ((false, d), ρ)
    | some (some (.own d)) => if ρ.cup = true ∧ i = 0 then none else some ((true, d), ρ)
    | _ => none
  | _ => none
/-- n: how many slots -/
def semOf (n : Nat) (fb : DS) : FS := fun ds => (fb ⟨false, slots ds n⟩).bind fun fl => (endOf fl).map fun x => x.1
def semC (n : Nat) (fb : DS) : FC := fun cd ds => (fb ⟨true, some (.own cd) :: slots ds (n - 1)⟩).bind fun fl => (endOf fl).bind fun (x : (Bool × D) × En) => match x.2.sl[0]? with
  | some (some (Sl.own c)) => some (x.1, c)
  | _ => none
section
variable {K : PySem.W.Frag} {F F' : Rg} {H H' : Hp} {g : G} {ρ ρ' : En} {σ σ' : St}
theorem slots_get {ds : List D} {n i : Nat} {s : Sl} (h : (slots ds n)[i]? = some (some s)) : ∃ d, ds[i]? = some d ∧ s = .sh d := by
  unfold slots at h
  by_cases hi : i < ds.length
  · rw [List.getElem?_append_left (by simpa using hi), List.getElem?_map] at h
    obtain ⟨d, h1, h2⟩ := Option.map_eq_some_iff.mp h
    exact ⟨d, h1, (Option.some.inj h2).symm⟩
  · rw [List.getElem?_append_right (by simpa using Nat.le_of_not_lt hi)] at h
    rw [List.getElem?_replicate] at h
    split at h <;> cases h
theorem start_get {N : List Str} {vs : List V} {i : Nat} {v : V} (h : vs[i]? = some v) : (L2.start N vs)[i]? = some (some v) := by
  unfold L2.start
  have hi := (List.getElem?_eq_some_iff.mp h).1
  rw [List.getElem?_append_left (by simpa using hi), List.getElem?_map, h]
  rfl
theorem start_rel {N : List Str} {vs : List V} {ds : List D} (hd : Dts K F H ds vs) (hF : ∀ a, F a → H a ≠ none) : Rel ⟨K, H, F, none⟩ F ⟨false, slots ds N.length⟩ (L2.start N vs) H where
  len := by
    have := hd.length
    unfold slots L2.start
    simp [this]
  sh := fun i d e => by
    obtain ⟨d', h1, h2⟩ := slots_get e
    cases h2
    obtain ⟨v, h3, h4⟩ := hd.get h1
    exact ⟨v, start_get h3, h4⟩
  own := fun i d e => by
    obtain ⟨d', h1, h2⟩ := slots_get e
    cases h2
  dist := fun i j d e a h1 => by
    obtain ⟨d', h1, h2⟩ := slots_get h1
    cases h2
  cupT := fun h => by cases h
  cupF := fun _ => rfl
  F0 := fun _ h => h
  Fn := fun _ h => .inl h
  Fs := hF
  base := fun _ _ h _ => h
theorem res_of {w : W} {v : V} {x : (Bool × D) × En} {F0 : Rg} {H0 : Hp} {cup : Option Addr} (r : Rel ⟨K, H0, F0, cup⟩ F' ρ' σ' H') (h : RW ⟨K, H0, F0, cup⟩ F' ρ' σ' H' v w) (he : endOf (.rt w ρ') = some x) : x.2 = ρ' ∧ RRes K F' H0 H' x.1.2 v x.1.1 := by
  cases w with
  | sh d => cases he; exact ⟨rfl, h⟩
  | fr d =>
    cases he
    obtain ⟨a, e, o, n, _, f⟩ := h
    exact ⟨rfl, a, e, o, n, f⟩
  | vr i =>
    obtain ⟨e, s, q⟩ := h
    simp only [endOf, q] at he
    cases s with
    | sh d =>
      cases he
      obtain ⟨v', e2, h⟩ := r.sh i d q
      rw [e] at e2
      cases e2
      exact ⟨rfl, h⟩
    | own d =>
      simp only at he
      split at he
      · cases he
      · rename_i hc
        cases he
        obtain ⟨a, e2, o, n, f⟩ := r.own i d q
        rw [e] at e2
        cases e2
        refine ⟨rfl, a, rfl, o, n, ?_⟩
        rcases f with f | f
        · exact f
        · cases hcu : ρ'.cup with
          | false => rw [r.cupF hcu] at f; cases f
          | true =>
            obtain ⟨c, d', c1, c2, c3⟩ := r.cupT hcu
            rw [f] at c1
            cases c1
            exact absurd ⟨hcu, r.dist i 0 d d' a q c3 e c2⟩ hc
end
section
variable {P : Program} {w : World} {K : PySem.W.Frag} {mg : Str → Option Value} {base : Heap} {x qual : Str} {st : Stmt} {f : Addr} {fd : FuncData} {N ps : List Str} {k : Nat}
/-- a def's promise, by its body's reading -/
theorem fnD (Fx : Fun K x qual st f fd) (S : FnScope N ps (defScope st)) (fb : DS)
    (hbody : ∀ (cdv : Value) (A : Around) (outer : List Env) (s : Shared) (H : Hp) (E : XK), Room k (A.deeper (envOfC qual (defScope st) s.heap.objs.size f cdv)) → PSsD (cxOf CX0 P w K mg base N qual (defScope st) f cdv A outer s H E).nox (defBody st) fb)
    (sem : FS) (hsem : ∀ ds, ds.length = ps.length → ∀ x, sem ds = some x → semOf N.length fb ds = some x) (hlen : ∀ ds x, sem ds = some x → ds.length = ps.length) : FnOk P w K mg base CX0 (k + 1) f fd ps (spD K sem) := by
  refine Fx.ok S (fun vs H Q E h => ?_) (fun cdv A outer s H vs Q E hr h => ?_)
  · obtain ⟨F, ds, _, hd, fr, d, e, _⟩ := h
    rw [← hd.length]
    exact hlen ds _ e
  · obtain ⟨F, ds, hF, hd, fr, d, e, q⟩ := h
    have e2 := hsem ds (hlen ds _ e) _ e
    obtain ⟨fl, e3, e2⟩ := Option.bind_eq_some_iff.mp e2
    obtain ⟨y, e4, e5⟩ := Option.map_eq_some_iff.mp e2
    refine ⟨_, hbody cdv A outer s H E hr ⟨K, H, F, none⟩ rfl, F, ⟨false, slots ds N.length⟩, start_rel hd hF, fl, e3, ?_⟩
    have fin : ∀ {F' : Rg} {ρ' : En} {σ' : St} {H' : Hp} {v : V}, Post ⟨K, H, F, none⟩ F ⟨false, slots ds N.length⟩ (L2.start N vs) H F' ρ' σ' H' → RRes K F' H H' d v fr → Q v H' := fun {F' ρ' σ' H' v} p r =>
      q v H' F' p.mono p.rel.Fn p.rel.Fs (fun b o h => p.rel.base b o h (fun z => nomatch z)) r
    cases fl with
    | nx ρ' =>
      cases e4
      cases e5
      exact fun σ' H' F' p => fin p .non
    | bk ρ' => cases e4
    | ct ρ' => cases e4
    | rt u ρ' =>
      intro v σ' H' F' p h
      obtain ⟨_, r⟩ := res_of p.rel h e4
      rw [e5] at r
      exact fin p r
/-- the same of a def that changes its first argument -/
theorem fnC (Fx : Fun K x qual st f fd) (S : FnScope N ps (defScope st)) (fb : DS) (hN : 0 < N.length)
    (hbody : ∀ (cdv : Value) (A : Around) (outer : List Env) (s : Shared) (H : Hp) (E : XK), Room k (A.deeper (envOfC qual (defScope st) s.heap.objs.size f cdv)) → PSsD (cxOf CX0 P w K mg base N qual (defScope st) f cdv A outer s H E).nox (defBody st) fb)
    (sem : FC) (hsem : ∀ cd ds, ds.length + 1 = ps.length → ∀ x, sem cd ds = some x → semC N.length fb cd ds = some x) (hlen : ∀ cd ds x, sem cd ds = some x → ds.length + 1 = ps.length) : FnOk P w K mg base CX0 (k + 1) f fd ps (spC K sem) := by
  refine Fx.ok S (fun vs H Q E h => ?_) (fun cdv A outer s H vs Q E hr h => ?_)
  · obtain ⟨c, us, F, cd, ds, rfl, _, _, _, hd, fr, d, cd', e, _⟩ := h
    rw [List.length_cons, ← hd.length]
    exact hlen cd ds _ e
  · obtain ⟨c, us, F, cd, ds, rfl, hF, hc, hm, hd, fr, d, cd', e, q⟩ := h
    have e2 := hsem cd ds (hlen cd ds _ e) _ e
    obtain ⟨fl, e3, e2⟩ := Option.bind_eq_some_iff.mp e2
    obtain ⟨y, e4, e5⟩ := Option.bind_eq_some_iff.mp e2
    have r0 : Rel ⟨K, H, F, some c⟩ F ⟨true, some (.own cd) :: slots ds (N.length - 1)⟩ (L2.start N (.ref c :: us)) H := by
      have hl := hd.length
      have zero : (L2.start N (.ref c :: us))[0]? = some (some (.ref c)) := start_get (by rfl)
      have up : ∀ {i : Nat} {v : V}, us[i]? = some v → (L2.start N (.ref c :: us))[i + 1]? = some (some v) := fun h => start_get (by simpa using h)
      refine ⟨?_, fun i d e => ?_, fun i d e => ?_, fun i j d e a h1 h2 h3 h4 => ?_, fun _ => ⟨c, cd, rfl, zero, rfl⟩, fun h => (by cases h), fun _ h => h, fun _ h => .inl h, hF, fun a o h _ => h⟩
      · unfold slots L2.start
        simp only [List.length_cons, List.length_append, List.length_map, List.length_replicate]
        omega
      · cases i with
        | zero => cases e
        | succ i =>
          obtain ⟨d', h1, h2⟩ := slots_get (show (slots ds (N.length - 1))[i]? = _ by simpa using e)
          cases h2
          obtain ⟨v, h3, h4⟩ := hd.get h1
          exact ⟨v, up h3, h4⟩
      · cases i with
        | zero =>
          cases e
          exact ⟨c, zero, hm, hc, .inr rfl⟩
        | succ i =>
          obtain ⟨d', h1, h2⟩ := slots_get (show (slots ds (N.length - 1))[i]? = _ by simpa using e)
          cases h2
      · cases i with
        | zero =>
          cases j with
          | zero => rfl
          | succ j =>
            obtain ⟨d', k1, k2⟩ := slots_get (show (slots ds (N.length - 1))[j]? = _ by simpa using h2)
            cases k2
        | succ i =>
          obtain ⟨d', k1, k2⟩ := slots_get (show (slots ds (N.length - 1))[i]? = _ by simpa using h1)
          cases k2
    refine ⟨_, hbody cdv A outer s H E hr ⟨K, H, F, some c⟩ rfl, F, _, r0, fl, e3, ?_⟩
    have fin : ∀ {F' : Rg} {ρ' : En} {σ' : St} {H' : Hp} {v : V}, Post ⟨K, H, F, some c⟩ F ⟨true, some (.own cd) :: slots ds (N.length - 1)⟩ (L2.start N (.ref c :: us)) H F' ρ' σ' H' → ρ'.sl[0]? = some (some (.own cd')) → RRes K F' H H' d v fr → Q v H' := fun {F' ρ' σ' H' v} p h0 r => by
      have hcu : ρ'.cup = true := p.rel.cup_eq r0
      obtain ⟨c', d', c1, c2, c3⟩ := p.rel.cupT hcu
      cases c1
      rw [h0] at c3
      cases c3
      obtain ⟨a, a1, a2, a3, _⟩ := p.rel.own 0 _ h0
      rw [c2] at a1
      cases a1
      exact q v H' F' p.mono p.rel.Fn p.rel.Fs (fun b o hb h => p.rel.base b o h (fun z => hb (Option.some.inj z).symm)) a2 a3 r
    have get0 : ∀ {y : (Bool × D) × En}, (match y.2.sl[0]? with
        | some (some (Sl.own c)) => some (y.1, c)
        | _ => none) = some ((fr, d), cd') → y.1 = (fr, d) ∧ y.2.sl[0]? = some (some (.own cd')) := fun {y} h => by
      split at h
      · rename_i c hc
        obtain ⟨h1, h2⟩ := Prod.mk.inj (Option.some.inj h)
        subst h2
        exact ⟨h1, hc⟩
      · cases h
    obtain ⟨g1, g2⟩ := get0 e5
    cases fl with
    | nx ρ' =>
      have e6 : y = ((false, .none), ρ') := (Option.some.inj e4).symm
      rw [e6] at g1 g2
      obtain ⟨h1, h2⟩ := Prod.mk.inj g1
      subst h1 h2
      exact fun σ' H' F' p => fin p g2 .non
    | bk ρ' => cases e4
    | ct ρ' => cases e4
    | rt u ρ' =>
      intro v σ' H' F' p h
      obtain ⟨e6, r⟩ := res_of p.rel h e4
      rw [g1] at r
      rw [e6] at g2
      exact fin p g2 r
end

/-! ### calls -/
def gets : List W → En → Option (List D)
  | [], _ => some []
  | w :: ws, ρ => (w.get ρ).bind fun d => (gets ws ρ).map fun ds => d :: ds
def light : Bool → D → Bool
  | true, d => inner d
  | false, d => imm d
def wOf : Bool → D → W
  | true, d => .fr d
  | false, d => .sh d
def dCall (sem : FS) (fs : DA) : DE := fun ρ => (fs ρ).bind fun x => (gets x.1 x.2).bind fun ds => (sem ds).bind fun y => if light y.1 y.2 = true then some (wOf y.1 y.2, x.2) else (gives x.1 x.2).map fun z => (wOf y.1 y.2, z.2)
section
variable {g : G} {F F1 F2 F' : Rg} {ρ ρ1 ρ2 ρ' : En} {σ σ1 σ' : St} {H H1 H2 H' : Hp}
theorem give_get {w : W} {d : D} (e : w.give ρ = some (d, ρ')) : w.get ρ = some d ∧ ∀ j, ρ'.at j = ρ.at j := by
  cases w with
  | sh d' => cases e; exact ⟨rfl, fun _ => rfl⟩
  | fr d' => cases e; exact ⟨rfl, fun _ => rfl⟩
  | vr i =>
    simp only [W.give] at e
    split at e
    · rename_i d' hd
      cases e
      exact ⟨by simp only [W.get, En.at, hd, Sl.d], fun _ => rfl⟩
    · rename_i d' hd
      split at e
      · cases e
      · cases e
        refine ⟨by simp only [W.get, En.at, hd, Sl.d], fun j => ?_⟩
        by_cases hj : i = j
        · subst hj
          have hl := (List.getElem?_eq_some_iff.mp hd).1
          simp only [En.at, hd, List.getElem?_set_self hl, Sl.d]
        · simp only [En.at, List.getElem?_set_ne hj]
    · cases e
theorem get_congr (h : ∀ j, ρ'.at j = ρ.at j) (w : W) : w.get ρ' = w.get ρ := by
  cases w with
  | sh d => rfl
  | fr d => rfl
  | vr i => exact h i
theorem gets_congr (h : ∀ j, ρ'.at j = ρ.at j) : ∀ ws : List W, gets ws ρ' = gets ws ρ
  | [] => rfl
  | w :: ws => by rw [gets, gets, get_congr h, gets_congr h ws]
theorem gives_gets : ∀ {ws : List W} {ds : List D} {ρ ρ' : En}, gives ws ρ = some (ds, ρ') → gets ws ρ = some ds
  | [], _, _, _, e => by cases e; rfl
  | w :: ws, ds, ρ, ρ', e => by
    obtain ⟨⟨d, ρ1⟩, e1, e⟩ := Option.bind_eq_some_iff.mp e
    obtain ⟨⟨ds', ρ2⟩, e2, e⟩ := Option.map_eq_some_iff.mp e
    cases e
    obtain ⟨h1, h2⟩ := give_get e1
    have h3 := gives_gets e2
    rw [gets_congr h2] at h3
    rw [gets, h1, h3]
    rfl
theorem RWs.dts (r : Rel g F ρ σ H) {F' : Rg} (m : ∀ a, F a → F' a) : ∀ {vs : List V} {ws : List W} {ds : List D}, RWs g F ρ σ H vs ws → gets ws ρ = some ds →
    (∀ (i : Nat) (y : W) (a : Addr), ws[i]? = some y → vs[i]? = some (.ref a) → (ownV ρ σ y a ∨ frAt y (.ref a) a) → F' a) → Dts g.K F' H ds vs
  | _, _, _, .nil, e, _ => by cases e; exact .nil
  | _, _, _, .cons h t n, e, k => by
    obtain ⟨d, e1, e⟩ := Option.bind_eq_some_iff.mp e
    obtain ⟨ds', e2, e⟩ := Option.map_eq_some_iff.mp e
    cases e
    refine .cons (h.dt r e1 m fun a ev o => ?_) (RWs.dts r m t e2 fun i y a h1 h2 => k (i + 1) y a (by simpa using h1) (by simpa using h2))
    subst ev
    exact k 0 _ a rfl rfl o
/-- the region grows by what is nobody's -/
theorem Rel.wider (r : Rel g F ρ σ H) (mono : ∀ a, F a → F' a) (new : ∀ a, F' a → F a ∨ (¬ OwnAt ρ σ a ∧ g.H0 a = none ∧ H a ≠ none)) : Rel g F' ρ σ H := by
  have k : Keeps F F' H H := ⟨mono, fun _ _ h => h, fun _ _ _ h => h, fun _ _ _ h => h⟩
  refine ⟨r.len, fun i d e => ?_, fun i d e => ?_, r.dist, r.cupT, r.cupF, fun a h => mono a (r.F0 a h), fun a h => ?_, fun a h => ?_, r.base⟩
  · obtain ⟨v, e1, h⟩ := r.sh i d e
    exact ⟨v, e1, h.keeps k⟩
  · obtain ⟨a, e1, o, n, f⟩ := r.own i d e
    refine ⟨a, e1, o.keeps k (fun _ h => h), fun z => ?_, f⟩
    rcases new a z with z | ⟨z, _⟩
    · exact n z
    · exact z ⟨i, d, e, e1⟩
  · rcases new a h with z | ⟨_, z, _⟩
    · exact r.Fn a z
    · exact .inr z
  · rcases new a h with z | ⟨_, _, z⟩
    · exact r.Fs a z
    · exact z
theorem Mo.inner {K : PySem.W.Frag} {d : D} {a : Addr} (h : Mo K F H d a) (e : inner d = true) : Mo K F' H d a := by
  rcases h with ⟨ds, xs, rfl, h1, h2⟩ | ⟨ds, xs, rfl, h1, h2⟩
  · exact .inl ⟨ds, xs, rfl, h1, h2.imm0 Keeps0.refl e⟩
  · exact .inr ⟨ds, xs, rfl, h1, h2.imm0 Keeps0.refl e⟩
theorem Mo.there {K : PySem.W.Frag} {d : D} {a : Addr} (h : Mo K F H d a) : H a ≠ none := by
  obtain ⟨u, eu, _⟩ := h.mut
  rw [eu]
  exact fun z => nomatch z
/-- behind a call that keeps all that stood: H the heap at the call, F the region at the call as the callee saw it -/
theorem after_call {fr : Bool} {d : D} {v : V} (r : Rel g F ρ σ H) (sm : Same H H') {Fc Fr : Rg} (hc : ∀ a, Fr a → Fc a ∨ H a = none) (hs : ∀ a, Fr a → H' a ≠ none) (res : RRes g.K Fr H H' d v fr) (lt : light fr d = true ∨ (∀ a, Fc a → F a) ∧ ∀ a, F a → Fr a) :
    ∃ F', EPo g F ρ σ H (wOf fr d) ρ v F' H' := by
  have t0 := TPo.keptAll r sm
  have r0 := t0.post.rel
  have nw : ∀ a, Fr a → H a = none → ¬ OwnAt ρ σ a ∧ g.H0 a = none ∧ H' a ≠ none := fun a f h => ⟨r.notOwnN h, r.fresh0 h, hs a f⟩
  have key : ∀ {F' : Rg}, (∀ a, F a → F' a) → (∀ a, F' a → F a ∨ (Fr a ∧ H a = none)) → RRes g.K F' H H' d v fr → ∃ F', EPo g F ρ σ H (wOf fr d) ρ v F' H' := fun {F'} m n res' => by
    have r1 : Rel g F' ρ σ H' := r0.wider m fun a h => (n a h).imp id fun z => nw a z.1 z.2
    refine ⟨F', ⟨⟨⟨r1, m, t0.post.kept, t0.post.there, fun b h => ?_, t0.post.newO⟩, t0.pres, t0.shr⟩, ?_, fun a h => ?_⟩⟩
    · rcases n b h with z | ⟨_, z⟩
      · exact .inl z
      · exact .inr (.inl z)
    · cases fr with
      | false => exact res'
      | true =>
        obtain ⟨a, rfl, o, nF, hn⟩ := res'
        exact ⟨a, rfl, o, nF, r.notOwnN hn, r.fresh0 hn⟩
    · cases fr with
      | false => obtain ⟨⟨_, z⟩, _⟩ := h; cases z
      | true =>
        obtain ⟨_, h⟩ := h
        obtain ⟨b, e, _, _, hn⟩ := res'
        rw [h] at e
        cases e
        exact hn
  rcases lt with lt | ⟨h1, h2⟩
  · refine key (F' := fun a => F a ∨ (Fr a ∧ H a = none)) (fun _ h => .inl h) (fun _ h => h) ?_
    cases fr with
    | false => exact Dt.imm res lt
    | true =>
      obtain ⟨a, e, o, n, hn⟩ := res
      exact ⟨a, e, o.inner lt, fun z => z.elim (fun z => r.Fs a z hn) (fun z => n z.1), hn⟩
  · exact key h2 (fun a h => (hc a h).elim (fun z => .inl (h1 a z)) fun z => .inr ⟨h, z⟩) res
end
section
variable {X : Cx} {k : Nat} {f : Addr} {fd : FuncData} {ps : List Str} {x : Str} {p pos : Pos} {e : Expr} {es : List Expr} {fs : DA} {sem : FS}
theorem call_ok {g : G} (hg : g.K = X.K) {σ : St} {H : Hp} {Q : VK} (t : tE g (dCall sem fs) σ H Q) : tCall (spD X.K sem) [] E0 (tA g fs) σ H Q := by
  obtain ⟨F, ρ, r, w, ρ', e, q⟩ := t
  obtain ⟨⟨ws, ρ1⟩, e1, e⟩ := Option.bind_eq_some_iff.mp e
  obtain ⟨ds, e2, e⟩ := Option.bind_eq_some_iff.mp e
  obtain ⟨⟨fr, d⟩, e3, e⟩ := Option.bind_eq_some_iff.mp e
  refine ⟨F, ρ, r, ws, ρ1, e1, fun vs H1 F1 p1 => ?_⟩
  show spD X.K sem (vs ++ []) H1 Q E0
  rw [List.append_nil]
  have r1 := p1.t.post.rel
  split at e
  · rename_i lt
    cases e
    refine ⟨fun b => F1 b ∨ ∃ (i : Nat) (y : W), ws[i]? = some y ∧ vs[i]? = some (.ref b) ∧ (ownV ρ1 σ y b ∨ frAt y (.ref b) b), ds, fun a h => ?_, hg ▸ p1.rw.dts r1 (fun _ h => .inl h) e2 (fun i y a h1 h2 h3 => .inr ⟨i, y, h1, h2, h3⟩), fr, d, e3, fun v H' Fr m n s sm res => ?_⟩
    · rcases h with h | ⟨i, y, h1, h2, h3 | h3⟩
      · exact r1.Fs a h
      · intro z
        obtain ⟨d, o, _⟩ := r1.ownObj h3.at
        exact o.there z
      · obtain ⟨v, hv, hw⟩ := p1.rw.get h1
        rw [h2] at hv
        cases hv
        exact hw.frs h3
    · obtain ⟨F', ep⟩ := after_call r1 sm n s (hg ▸ res) (.inl lt)
      exact q v H' F' (EPo.then r p1.t ep)
  · obtain ⟨⟨ds', ρ2⟩, e4, e⟩ := Option.map_eq_some_iff.mp e
    cases e
    obtain ⟨F2, p2, hd⟩ := p1.gives e4
    have := gives_gets e4
    rw [e2] at this
    cases this
    have r2 := p2.post.rel
    refine ⟨F2, ds, r2.Fs, hg ▸ hd, fr, d, e3, fun v H' Fr m n s sm res => ?_⟩
    obtain ⟨F', ep⟩ := after_call r2 sm n s (hg ▸ res) (.inr ⟨fun _ h => h, m⟩)
    exact q v H' F' (EPo.then r p2 ep)
theorem ped_call (Fn : FnOk X.prog X.w X.K X.mg X.base CX0 k f fd ps (spD X.K sem)) (hr : Room k X.A) (hG : Gl X x) (hm : X.mg x = some (.ref f)) (hk : PySem.W.keepIn X.K (.ref f) = true) (hb : L2.Binds X.K fd ps []) (ha : PAD X (e :: es) fs)
    (hdb : (x == ("__debug__" : Str)) = false := by decide) (he : starEach (e :: es) X.env = (false, eval e X.env) :: starEach es X.env := by rfl) (hpl : (backTo pos (starEach es X.env)).any (·.1) = false := by rfl) :
    PED X (.Call (.Name x p) (e :: es) [] pos) (dCall sem fs) := fun g hg => (pe_call Fn hr hG hm hk hb .nil pass0 (ha g hg) hdb he hpl).wk fun σ H Q t => call_ok hg t
theorem ped_call0 (Fn : FnOk X.prog X.w X.K X.mg X.base CX0 k f fd ps (spD X.K sem)) (hr : Room k X.A) (hG : Gl X x) (hm : X.mg x = some (.ref f)) (hk : PySem.W.keepIn X.K (.ref f) = true) (hb : L2.Binds X.K fd ps []) (hdb : (x == ("__debug__" : Str)) = false := by decide) :
    PED X (.Call (.Name x p) [] [] pos) (dCall sem dNil) := fun g hg => (pe_call0 Fn hr hG hm hk hb .nil pass0 hdb).wk fun σ H Q t => by
  have z := call_ok hg t
  obtain ⟨F, ρ, r, w, ρ', e, q⟩ := t
  obtain ⟨F1, ρ1, r1, ws, ρ2, e1, q1⟩ := z
  cases e1
  exact q1 [] H F1 ⟨TPo.refl r1, .nil, fun i y u a h => by simp at h⟩
end
end PD
set_option Elab.async false
set_option linter.all false
set_option maxRecDepth 100000
set_option maxHeartbeats 4000000
/-! PD11: calls that change their first argument. -/
namespace PD
set_option autoImplicit false
open PySem PySem.Spec L2
open PyProof.Rows hiding St

def notVr (i : Nat) : W → Bool
  | .vr j => decide (j ≠ i)
  | _ => true
def En.own (ρ : En) (i : Nat) (d : D) : En := { ρ with sl := ρ.sl.set i (some (.own d)) }
def dCallC (sem : FC) (fs : DA) : DE := fun ρ => (fs ρ).bind fun x => match x.1 with
  | .vr i :: us => match x.2.sl[i]? with
    | some (some (.own cd)) => if us.all (notVr i) = true then (gets us x.2).bind fun ds => (sem cd ds).bind fun y => if inner y.2 = true then
        if light y.1.1 y.1.2 = true then some (wOf y.1.1 y.1.2, x.2.own i y.2) else (gives us x.2).map fun z => (wOf y.1.1 y.1.2, z.2.own i y.2)
      else none else none
    | _ => none
  | _ => none
section
variable {g : G} {F F1 F2 F' : Rg} {ρ ρ1 ρ2 ρ' : En} {σ σ1 σ' : St} {H H1 H2 H' : Hp}
theorem gives_slot {i : Nat} : ∀ {us : List W} {ds : List D} {ρ ρ' : En}, us.all (notVr i) = true → gives us ρ = some (ds, ρ') → ρ'.sl[i]? = ρ.sl[i]?
  | [], _, _, _, _, e => by cases e; rfl
  | w :: ws, ds, ρ, ρ', n, e => by
    obtain ⟨⟨d, ρ1⟩, e1, e⟩ := Option.bind_eq_some_iff.mp e
    obtain ⟨⟨ds', ρ2⟩, e2, e⟩ := Option.map_eq_some_iff.mp e
    cases e
    rw [List.all_cons, Bool.and_eq_true] at n
    rw [gives_slot n.2 e2]
    cases w with
    | sh d => cases e1; rfl
    | fr d => cases e1; rfl
    | vr j =>
      have hj : j ≠ i := of_decide_eq_true n.1
      simp only [W.give] at e1
      split at e1
      · cases e1; rfl
      · split at e1
        · cases e1
        · cases e1
          exact List.getElem?_set_ne hj
      · cases e1
theorem Rel.mutate {i : Nat} {c : Addr} {cd cd' : D} (r : Rel g F ρ σ H) (e : ρ.sl[i]? = some (some (.own cd))) (es : σ[i]? = some (some (.ref c))) (k : ∀ b o, b ≠ c → H b = some o → H' b = some o) (m : Mo g.K F H' cd' c) :
    Rel g F (ρ.own i cd') σ H' ∧ ∀ b, OwnAt (ρ.own i cd') σ b → OwnAt ρ σ b := by
  obtain ⟨c', e2, mo, nF, f⟩ := r.own i cd e
  rw [es] at e2
  cases e2
  obtain ⟨u, eu, _, ut, uz⟩ := mo.mut
  have kp : Keeps F F H H' := ⟨fun _ h => h, fun b xs h => k b _ (fun z => by subst z; rw [eu] at h; cases h; exact ut _ rfl) h, fun b o xs h => k b _ (fun z => by subst z; rw [eu] at h; cases h; exact uz _ _ rfl) h, fun b u fb h => by
    have ne : b ≠ c := fun z => nF (z ▸ fb)
    rcases h with h | ⟨o, h⟩
    · exact .inl (k b _ ne h)
    · exact .inr ⟨o, k b _ ne h⟩⟩
  have hi := (List.getElem?_eq_some_iff.mp e).1
  have own2 : ∀ b, OwnAt (ρ.own i cd') σ b → OwnAt ρ σ b := fun b z => by
    obtain ⟨j, d, h1, h2⟩ := z
    rcases set_at h1 with ⟨rfl, _, _⟩ | ⟨_, h1⟩
    · exact ⟨_, cd, e, h2⟩
    · exact ⟨j, d, h1, h2⟩
  refine ⟨⟨by show (ρ.sl.set i _).length = _; rw [List.length_set]; exact r.len, fun j d h => ?_, fun j d h => ?_, fun j l d1 d2 a h1 h2 h3 h4 => ?_, fun h => ?_, r.cupF, r.F0, r.Fn, fun a fa z => ?_, fun a o h n => ?_⟩, own2⟩
  · rcases set_at h with ⟨_, q, _⟩ | ⟨_, h⟩
    · cases q
    · obtain ⟨v, h1, h2⟩ := r.sh j d h
      exact ⟨v, h1, h2.keeps kp⟩
  · rcases set_at h with ⟨rfl, q, _⟩ | ⟨ne, h⟩
    · cases q
      exact ⟨c, es, m, nF, f⟩
    · obtain ⟨a, h1, o, n, f'⟩ := r.own j d h
      have nea : a ≠ c := fun z => ne (r.dist i j cd d c e h es (z ▸ h1))
      exact ⟨a, h1, o.keeps kp (fun u eu => k a u nea eu), n, f'⟩
  · have back : ∀ {l : Nat} {d : D}, (ρ.sl.set i (some (.own cd')))[l]? = some (some (.own d)) → ∃ d', ρ.sl[l]? = some (some (.own d')) := fun {l d} h => by
      rcases set_at h with ⟨rfl, _, _⟩ | ⟨_, h⟩
      · exact ⟨cd, e⟩
      · exact ⟨d, h⟩
    obtain ⟨d1', k1⟩ := back h1
    obtain ⟨d2', k2⟩ := back h2
    exact r.dist j l d1' d2' a k1 k2 h3 h4
  · obtain ⟨c', d, c1, c2, c3⟩ := r.cupT h
    by_cases h0 : i = 0
    · subst h0
      exact ⟨c', cd', c1, c2, List.getElem?_set_self hi⟩
    · exact ⟨c', d, c1, c2, by show (ρ.sl.set i _)[0]? = _; rw [List.getElem?_set_ne h0]; exact c3⟩
  · have ne : a ≠ c := fun z => nF (z ▸ fa)
    cases q : H a with
    | none => exact r.Fs a fa q
    | some o => rw [k a o ne q] at z; cases z
  · refine k a o (fun z => ?_) (r.base a o h n)
    subst z
    rcases f with f | f
    · rw [f] at h; cases h
    · exact n f
/-- behind a call that changed the list at c -/
theorem after_callC {i : Nat} {c : Addr} {cd cd' : D} {fr : Bool} {d : D} {v : V} (r : Rel g F ρ σ H) (e : ρ.sl[i]? = some (some (.own cd))) (es : σ[i]? = some (some (.ref c))) (k : ∀ b o, b ≠ c → H b = some o → H' b = some o)
    {Fc Fr : Rg} (hc : ∀ a, Fr a → Fc a ∨ H a = none) (hs : ∀ a, Fr a → H' a ≠ none) (nc : ¬ Fr c) (m : Mo g.K Fr H' cd' c) (inn : inner cd' = true) (res : RRes g.K Fr H H' d v fr) (lt : light fr d = true ∨ (∀ a, Fc a → F a) ∧ ∀ a, F a → Fr a) :
    ∃ F', EPo g F ρ σ H (wOf fr d) (ρ.own i cd') v F' H' := by
  obtain ⟨r0, shr⟩ := r.mutate e es k (m.inner inn)
  have own0 : OwnAt ρ σ c := ⟨i, cd, e, es⟩
  have hi := (List.getElem?_eq_some_iff.mp e).1
  have nw : ∀ a, Fr a → H a = none → ¬ OwnAt (ρ.own i cd') σ a ∧ g.H0 a = none ∧ H' a ≠ none := fun a f h => ⟨fun z => r.notOwnN h (shr a z), r.fresh0 h, hs a f⟩
  have key : ∀ {F' : Rg}, (∀ a, F a → F' a) → (∀ a, F' a → F a ∨ (Fr a ∧ H a = none)) → RRes g.K F' H H' d v fr → ∃ F', EPo g F ρ σ H (wOf fr d) (ρ.own i cd') v F' H' := fun {F'} m n res' => by
    have r1 : Rel g F' (ρ.own i cd') σ H' := r0.wider m fun a h => (n a h).imp id fun z => nw a z.1 z.2
    refine ⟨F', ⟨⟨⟨r1, m, fun b o h no => k b o (fun z => no (z ▸ own0)) h, fun b h => ?_, fun b h => ?_, fun b h => .inl (shr b h)⟩, fun j s h => ?_, shr⟩, ?_, fun a h => ?_⟩⟩
    · by_cases z : b = c
      · subst z
        obtain ⟨a, h1, mo, _⟩ := r0.own i cd' (List.getElem?_set_self hi)
        rw [es] at h1
        cases h1
        exact mo.there
      · cases q : H b with
        | none => exact absurd q h
        | some o => rw [k b o z q]; exact fun y => nomatch y
    · rcases n b h with z | ⟨_, z⟩
      · exact .inl z
      · exact .inr (.inl z)
    · by_cases z : i = j
      · subst z
        exact ⟨_, List.getElem?_set_self hi⟩
      · exact ⟨s, by show (ρ.sl.set i _)[j]? = _; rw [List.getElem?_set_ne z]; exact h⟩
    · cases fr with
      | false => exact res'
      | true =>
        obtain ⟨a, rfl, o, nF, hn⟩ := res'
        exact ⟨a, rfl, o, nF, fun z => r.notOwnN hn (shr a z), r.fresh0 hn⟩
    · cases fr with
      | false => obtain ⟨⟨_, z⟩, _⟩ := h; cases z
      | true =>
        obtain ⟨_, h⟩ := h
        obtain ⟨b, e, _, _, hn⟩ := res'
        rw [h] at e
        cases e
        exact hn
  rcases lt with lt | ⟨h1, h2⟩
  · refine key (F' := fun a => F a ∨ (Fr a ∧ H a = none)) (fun _ h => .inl h) (fun _ h => h) ?_
    cases fr with
    | false => exact Dt.imm res lt
    | true =>
      obtain ⟨a, e, o, n, hn⟩ := res
      exact ⟨a, e, o.inner lt, fun z => z.elim (fun z => r.Fs a z hn) (fun z => n z.1), hn⟩
  · exact key h2 (fun a h => (hc a h).elim (fun z => .inl (h1 a z)) fun z => .inr ⟨h, z⟩) res
end
section
variable {X : Cx} {k : Nat} {f : Addr} {fd : FuncData} {ps : List Str} {x : Str} {p pos : Pos} {e : Expr} {es : List Expr} {fs : DA} {sem : FC}
theorem callC_ok {g : G} (hg : g.K = X.K) {σ : St} {H : Hp} {Q : VK} (t : tE g (dCallC sem fs) σ H Q) : tCall (spC X.K sem) [] E0 (tA g fs) σ H Q := by
  obtain ⟨F, ρ, r, w, ρ', e, q⟩ := t
  obtain ⟨⟨ws, ρ1⟩, e1, e⟩ := Option.bind_eq_some_iff.mp e
  refine ⟨F, ρ, r, ws, ρ1, e1, fun vs H1 F1 p1 => ?_⟩
  show spC X.K sem (vs ++ []) H1 Q E0
  rw [List.append_nil]
  have r1 := p1.t.post.rel
  simp only at e
  split at e
  · rename_i i us
    split at e
    · rename_i cd hcd
      split at e
      · rename_i hnv
        obtain ⟨ds, e2, e⟩ := Option.bind_eq_some_iff.mp e
        obtain ⟨⟨⟨fr, d⟩, cd'⟩, e3, e⟩ := Option.bind_eq_some_iff.mp e
        split at e
        · rename_i hin
          obtain ⟨c, ec, mo, nF, _⟩ := r1.own i cd hcd
          cases p1 with
          | mk t rw new =>
          cases rw with
          | @cons v _ us' _ hv tl dn =>
          obtain ⟨ev, _⟩ := hv
          rw [ec] at ev
          cases ev
          -- the other arguments stand apart from c
          have apart : ∀ (j : Nat) (y : W), us[j]? = some y → us'[j]? = some (.ref c) → ¬ (ownV ρ1 σ y c ∨ frAt y (.ref c) c) := fun j y h1 h2 h3 => by
            obtain ⟨v', hv', hw'⟩ := tl.get h1
            rw [h2] at hv'
            cases hv'
            rcases h3 with ⟨l, d', rfl, h4, h5⟩ | ⟨⟨d', rfl⟩, _⟩
            · have hl : l ≠ i := of_decide_eq_true (List.all_eq_true.mp hnv _ (List.mem_of_getElem? h1))
              exact hl (r1.dist l i d' cd c h4 hcd h5 ec)
            · obtain ⟨b, eb, _, _, no, _⟩ := hw'
              cases eb
              exact no ⟨i, cd, hcd, ec⟩
          split at e
          · rename_i lt
            cases e
            refine ⟨c, us', fun b => F1 b ∨ ∃ (j : Nat) (y : W), us[j]? = some y ∧ us'[j]? = some (.ref b) ∧ (ownV ρ1 σ y b ∨ frAt y (.ref b) b), cd, ds, rfl, fun a h => ?_, fun h => ?_, hg ▸ mo.keeps ⟨fun _ h => .inl h, fun _ _ h => h, fun _ _ _ h => h, fun _ _ _ h => h⟩ (fun _ h => h), hg ▸ tl.dts r1 (fun _ h => .inl h) e2 (fun j y a h1 h2 h3 => .inr ⟨j, y, h1, h2, h3⟩), fr, d, cd', e3, fun v H' Fr m n s k mc nc res => ?_⟩
            · rcases h with h | ⟨j, y, h1, h2, h3 | h3⟩
              · exact r1.Fs a h
              · intro z
                obtain ⟨d, o, _⟩ := r1.ownObj h3.at
                exact o.there z
              · obtain ⟨v, hv, hw⟩ := tl.get h1
                rw [h2] at hv
                cases hv
                exact hw.frs h3
            · rcases h with h | ⟨j, y, h1, h2, h3⟩
              · exact nF h
              · exact apart j y h1 h2 h3
            · obtain ⟨F', ep⟩ := after_callC r1 hcd ec k n s nc (hg ▸ mc) hin (hg ▸ res) (.inl lt)
              exact q v H' F' (EPo.then r t ep)
          · obtain ⟨⟨ds', ρ2⟩, e4, e⟩ := Option.map_eq_some_iff.mp e
            cases e
            obtain ⟨F2, m2, n2, r2, d2, s2, pr2⟩ := gives_ok r1 tl e4
            have := gives_gets e4
            rw [e2] at this
            cases this
            have hcd2 : ρ2.sl[i]? = some (some (.own cd)) := (gives_slot hnv e4).trans hcd
            obtain ⟨c2, ec2, mo2, nF2, _⟩ := r2.own i cd hcd2
            rw [ec] at ec2
            cases ec2
            have t2 : TPo g F ρ σ H F2 ρ2 H1 := t.ghost r2 m2 (fun a h => by
              rcases n2 a h with z | z | ⟨j, y, u, z1, z2, z3⟩
              · exact .inl z
              · exact .inr (.inl z)
              · exact .inr (.inr (new (j + 1) y u a (by simpa using z1) (by simpa using z2) z3))) s2 pr2
            refine ⟨c, us', F2, cd, ds, rfl, r2.Fs, nF2, hg ▸ mo2, hg ▸ d2, fr, d, cd', e3, fun v H' Fr m n s k mc nc res => ?_⟩
            obtain ⟨F', ep⟩ := after_callC r2 hcd2 ec k n s nc (hg ▸ mc) hin (hg ▸ res) (.inr ⟨fun _ h => h, m⟩)
            exact q v H' F' (EPo.then r t2 ep)
        · cases e
      · cases e
    · cases e
  · cases e
theorem ped_callC (Fn : FnOk X.prog X.w X.K X.mg X.base CX0 k f fd ps (spC X.K sem)) (hr : Room k X.A) (hG : Gl X x) (hm : X.mg x = some (.ref f)) (hk : PySem.W.keepIn X.K (.ref f) = true) (hb : L2.Binds X.K fd ps []) (ha : PAD X (e :: es) fs)
    (hdb : (x == ("__debug__" : Str)) = false := by decide) (he : starEach (e :: es) X.env = (false, eval e X.env) :: starEach es X.env := by rfl) (hpl : (backTo pos (starEach es X.env)).any (·.1) = false := by rfl) :
    PED X (.Call (.Name x p) (e :: es) [] pos) (dCallC sem fs) := fun g hg => (pe_call Fn hr hG hm hk hb .nil pass0 (ha g hg) hdb he hpl).wk fun σ H Q t => callC_ok hg t
end
end PD
set_option Elab.async false
set_option linter.all false
set_option maxRecDepth 100000
set_option maxHeartbeats 4000000
/-! PD12: built-ins and methods over data; stores into lists. -/
namespace PD
set_option autoImplicit false
open PySem PySem.Spec L2
open PyProof.Rows hiding St

/-! ### a built-in of one argument, of two -/
structure B1 (X : Cx) (f : Value) (sem : D → Option W) : Prop where
  ex : ∃ r, CallR X f r ∧ ∀ (F : Rg) (H : Hp) (a : D) (va : V) (w : W) (Q : VK), Dtop X.K F H a va → sem a = some w → (∀ v H', NewR X.K F H v H' w → Q v H') → r [va] H Q
structure B2 (X : Cx) (f : Value) (sem : D → D → Option W) : Prop where
  ex : ∃ r, CallR X f r ∧ ∀ (F : Rg) (H : Hp) (a b : D) (va vb : V) (w : W) (Q : VK), Dtop X.K F H a va → Dtop X.K F H b vb → sem a b = some w → (∀ v H', NewR X.K F H v H' w → Q v H') → r [va, vb] H Q
def dB1 (sem : D → Option W) (fa : DE) : DE := fun ρ => (fa ρ).bind fun x => (x.1.get x.2).bind fun a => (sem a).map fun w => (w, x.2)
section
variable {X : Cx} {p pos : Pos} {x : Str} {id T : String} {a b : Expr} {fa fb : DE} {sem1 : D → Option W} {sem2 : D → D → Option W}
theorem one {g : G} (hg : g.K = X.K) {r : List V → Hp → VK → Prop} (hq : ∀ (F : Rg) (H : Hp) (a : D) (va : V) (w : W) (Q : VK), Dtop X.K F H a va → sem1 a = some w → (∀ v H', NewR X.K F H v H' w → Q v H') → r [va] H Q)
    {σ : St} {H : Hp} {Q : VK} (t : tE g (dB1 sem1 fa) σ H Q) : tCB r (tCons (tE g fa) tNil) σ H Q := by
  obtain ⟨F, ρ, r0, w, ρ', e, q⟩ := t
  obtain ⟨⟨x, ρ1⟩, e1, e⟩ := Option.bind_eq_some_iff.mp e
  obtain ⟨da, e3, e⟩ := Option.bind_eq_some_iff.mp e
  obtain ⟨w', e5, e⟩ := Option.map_eq_some_iff.mp e
  cases e
  exact ⟨F, ρ, r0, x, ρ1, e1, fun v H1 F1 p1 => hq F1 H1 da v w Q (hg ▸ RW.top p1.t.post.rel p1.rw e3) e5 fun v' H' n => q v' H' F1 (EPo.then r0 p1.t ((hg ▸ n : NewR g.K F1 H1 v' H' w).epo p1.t.post.rel))⟩
theorem ped_b1 (hb : B1 X (.builtin id) sem1) (hG : Gl X x) (hm : X.mg x = none) (hv : bootBuiltins x = some (.builtin id)) (ha : PED X a fa) (hn : x ≠ "__name__" := by decide) (hdb : (x == ("__debug__" : Str)) = false := by decide)
    (he : starEach [a] X.env = (false, eval a X.env) :: starEach [] X.env := by rfl) : PED X (.Call (.Name x p) [a] [] pos) (dB1 sem1 fa) := fun g hg => by
  obtain ⟨r, hr, hq⟩ := hb.ex
  exact (pe_callB hr hG hm hv (pa_cons (ha g hg) pa_nil he) hn hdb he).wk fun σ H Q t => one hg hq t
theorem ped_t1 (hb : B1 X (.type T) sem1) (hG : Gl X x) (hm : X.mg x = none) (hv : bootBuiltins x = some (.type T)) (ha : PED X a fa) (hn : x ≠ "__name__" := by decide) (hdb : (x == ("__debug__" : Str)) = false := by decide)
    (he : starEach [a] X.env = (false, eval a X.env) :: starEach [] X.env := by rfl) : PED X (.Call (.Name x p) [a] [] pos) (dB1 sem1 fa) := fun g hg => by
  obtain ⟨r, hr, hq⟩ := hb.ex
  exact (pe_callTy hr hG hm hv (pa_cons (ha g hg) pa_nil he) hn hdb he).wk fun σ H Q t => one hg hq t
theorem ped_b2 (hb : B2 X (.builtin id) sem2) (hG : Gl X x) (hm : X.mg x = none) (hv : bootBuiltins x = some (.builtin id)) (ha : PED X a fa) (hb' : PED X b fb) (hn : x ≠ "__name__" := by decide) (hdb : (x == ("__debug__" : Str)) = false := by decide)
    (he : starEach [a, b] X.env = (false, eval a X.env) :: starEach [b] X.env := by rfl) (he2 : starEach [b] X.env = (false, eval b X.env) :: starEach [] X.env := by rfl) (hpl : (backTo pos (starEach [b] X.env)).any (·.1) = false := by rfl) : PED X (.Call (.Name x p) [a, b] [] pos) (dBin sem2 fa fb) := fun g hg => by
  obtain ⟨r, hr, hq⟩ := hb.ex
  refine (pe_callB hr hG hm hv (pa_cons (ha g hg) (pa_cons (hb' g hg) pa_nil he2) he) hn hdb he hpl).wk fun σ H Q t => ?_
  exact two t fun F ρ H2 da db va vb w r2 ta tb e q => hq F H2 da db va vb w Q (hg ▸ ta) (hg ▸ tb) e fun v H' n => q v H' (hg ▸ n)
end

def bLen : D → Option W
  | .list xs => some (.sh (.int xs.length))
  | .tuple xs => some (.sh (.int xs.length))
  | .str x => if x.length ≤ 16777216 then some (.sh (.int x.length)) else none
  | .dict kvs => some (.sh (.int kvs.length))
  | _ => none
def bAbs : D → Option W
  | .int i => some (.sh (.int (if i < 0 then -i else i)))
  | _ => none
def bInt : D → Option W
  | .int i => some (.sh (.int i))
  | .bool b => some (.sh (.int (if b then 1 else 0)))
  | _ => none
def bSum : D → Option W
  | .list xs => (ints? xs).map fun ns => .sh (.int ns.sum)
  | .tuple xs => (ints? xs).map fun ns => .sh (.int ns.sum)
  | _ => none
def imax (n : Int) (ns : List Int) : Int := ns.foldl (fun m k => if m < k then k else m) n
def imin (n : Int) (ns : List Int) : Int := ns.foldl (fun m k => if k < m then k else m) n
def bMax : D → Option W
  | .list xs => (ints? xs).bind fun ns => match ns with
    | [] => none
    | n :: ns => some (.sh (.int (imax n ns)))
  | _ => none
def bMin : D → Option W
  | .list xs => (ints? xs).bind fun ns => match ns with
    | [] => none
    | n :: ns => some (.sh (.int (imin n ns)))
  | _ => none
def bMax2 : D → D → Option W
  | .int i, .int j => some (.sh (.int (if j > i then j else i)))
  | _, _ => none
def bMin2 : D → D → Option W
  | .int i, .int j => some (.sh (.int (if j < i then j else i)))
  | _, _ => none
def bools? : List D → Option (List Bool)
  | [] => some []
  | .bool b :: r => (bools? r).map (b :: ·)
  | _ => none
def bAll : D → Option W
  | .list xs => (bools? xs).map fun bs => .sh (.bool (bs.all id))
  | _ => none
def bAny : D → Option W
  | .list xs => (bools? xs).map fun bs => .sh (.bool (bs.any id))
  | _ => none
def bList : D → Option W
  | .list xs => some (.fr (.list xs))
  | .tuple xs => some (.fr (.list xs))
  | _ => none
def bTuple : D → Option W
  | .list xs => some (.sh (.tuple xs))
  | .tuple xs => some (.sh (.tuple xs))
  | _ => none

theorem bools?_some : ∀ {ds : List D} {ns : List Bool}, bools? ds = some ns → ds = ns.map PyData.bool
  | [], _, h => by cases h; rfl
  | .bool i :: r, ns, h => by
    obtain ⟨ms, e1, e2⟩ := Option.map_eq_some_iff.mp h
    rw [bools?_some e1, ← e2]
    rfl
  | .none :: _, _, h => by cases h
  | .int _ :: _, _, h => by cases h
  | .str _ :: _, _, h => by cases h
  | .list _ :: _, _, h => by cases h
  | .tuple _ :: _, _, h => by cases h
  | .dict _ :: _, _, h => by cases h
theorem bools?_map : ∀ ns : List Bool, bools? (ns.map PyData.bool) = some ns
  | [] => rfl
  | n :: ns => by rw [List.map_cons, bools?, bools?_map ns]; rfl
theorem imax_ge : ∀ (ns : List Int) (n : Int), n ≤ imax n ns ∧ (∀ k ∈ ns, k ≤ imax n ns) ∧ imax n ns ∈ n :: ns
  | [], n => ⟨Int.le_refl _, fun k h => (by simp at h), by simp [imax]⟩
  | k :: ns, n => by
    obtain ⟨h1, h2, h3⟩ := imax_ge ns (if n < k then k else n)
    have e : imax n (k :: ns) = imax (if n < k then k else n) ns := rfl
    rw [e]
    refine ⟨?_, fun j hj => ?_, ?_⟩
    · split at h1 <;> rename_i hh <;> simp only [hh, if_true, if_false] <;> omega
    · rcases List.mem_cons.mp hj with rfl | hj
      · split at h1 <;> rename_i hh <;> simp only [hh, if_true, if_false] <;> omega
      · exact h2 j hj
    · rcases List.mem_cons.mp h3 with h3 | h3
      · rw [h3]
        split <;> simp
      · exact List.mem_cons_of_mem _ (List.mem_cons_of_mem _ h3)
theorem imin_le : ∀ (ns : List Int) (n : Int), imin n ns ≤ n ∧ (∀ k ∈ ns, imin n ns ≤ k) ∧ imin n ns ∈ n :: ns
  | [], n => ⟨Int.le_refl _, fun k h => (by simp at h), by simp [imin]⟩
  | k :: ns, n => by
    obtain ⟨h1, h2, h3⟩ := imin_le ns (if k < n then k else n)
    have e : imin n (k :: ns) = imin (if k < n then k else n) ns := rfl
    rw [e]
    refine ⟨?_, fun j hj => ?_, ?_⟩
    · split at h1 <;> rename_i hh <;> simp only [hh, if_true, if_false] <;> omega
    · rcases List.mem_cons.mp hj with rfl | hj
      · split at h1 <;> rename_i hh <;> simp only [hh, if_true, if_false] <;> omega
      · exact h2 j hj
    · rcases List.mem_cons.mp h3 with h3 | h3
      · rw [h3]
        split <;> simp
      · exact List.mem_cons_of_mem _ (List.mem_cons_of_mem _ h3)

section
variable {X : Cx}
theorem call_len_dict : CallR X (.builtin "len") (fun xs H Q => ∃ a kvs, xs = [V.ref a] ∧ Rd H a (.dK kvs) ∧ Q (.int kvs.length) H) := by
  intro pins s σ H xs us Q I r ⟨a, kvs, hx, hr, q⟩
  subst hx
  obtain ⟨u, hu, ru⟩ := vals1 r
  subst hu
  cases ru
  exact d_len I hr fun t s' I' => ⟨.int _, H, I', ⟨t, rfl⟩, q⟩
theorem b1_len : B1 X (.builtin "len") bLen := by
  refine ⟨_, call_len_seq.or (call_len_str.or call_len_dict), fun F H a va w Q ha e q => ?_⟩
  unfold bLen at e
  split at e
  · cases e
    obtain ⟨l, xs, rfl, h1, d1⟩ := ha
    exact .inl ⟨l, xs, rfl, .inl (.inl h1), by rw [← d1.length]; exact q _ _ (.val (.int _))⟩
  · cases e
    obtain ⟨l, xs, rfl, h1, d1⟩ := ha.tup_inv
    exact .inl ⟨l, xs, rfl, .inr h1, by rw [← d1.length]; exact q _ _ (.val (.int _))⟩
  · split at e
    · rename_i hz
      cases e
      cases ha.str_inv
      exact .inr (.inl ⟨_, rfl, by rw [sizeLine_eq]; exact hz, q _ _ (.val (.int _))⟩)
    · cases e
  · cases e
    obtain ⟨l, ks, rfl, h1, d1⟩ := ha
    exact .inr (.inr ⟨l, ks, rfl, h1, by rw [← d1.length]; exact q _ _ (.val (.int _))⟩)
  · cases e
theorem b1_abs : B1 X (.builtin "abs") bAbs := by
  refine ⟨_, call_abs, fun F H a va w Q ha e q => ?_⟩
  unfold bAbs at e
  split at e
  · cases e
    cases ha.int_inv
    exact ⟨_, rfl, q _ _ (.val (.int _))⟩
  · cases e
theorem b1_int : B1 X (.type "int") bInt := by
  refine ⟨_, call_int1, fun F H a va w Q ha e q => ?_⟩
  unfold bInt at e
  split at e
  · cases e
    cases ha.int_inv
    exact .inl ⟨_, rfl, q _ _ (.val (.int _))⟩
  · cases e
    cases ha.bool_inv
    exact .inr ⟨_, rfl, q _ _ (.val (.int _))⟩
  · cases e
/-- a sum over a tuple -/
theorem sum_tuple {prog : Program} {w : World} {A : Around} {E : Value → Shared → Prop} {s : Shared} {l : Addr} {its : List Value} {ns : List Int} {Q : Value → Shared → Prop} (hh : A.handled = none) (hl : s.heap.IsTuple l its.toArray) (hi : IntsAre its ns)
    (h : ∀ h' tk t', (∀ b o, s.heap.get? b = some o → h'.get? b = some o) → Q (.int ns.sum t') { s with heap := h', toks := tk }) : wpAny (model prog w) A (call (.builtin "sum") [.ref l]) Q E s := by
  have hlt : l < s.heap.objs.size := by obtain ⟨o, ho, _⟩ := hl; exact Heap.lt_size ho
  refine call_sum_walkG (wpAny_pyIter_tuple hl ?_)
  have ne : l ≠ s.heap.objs.size := Nat.ne_of_lt hlt
  refine ⟨s.heap.objs.size, _, _, _, _, _, fun i => ns.getD i 0, rfl, Walks.tuple (A := A.in1) hh s.heap.objs.size l ne its.toArray, ⟨⟨_, Heap.get?_push_size _ rfl, rfl, rfl⟩, hl.at fun o e => Heap.get?_push_of_some _ e⟩, fun b hb => ?_, fun i v hv => ?_, fun h' tk t' hk => ?_⟩
  · have e' : b = s.heap.objs.size ∨ b = l := by simpa using hb
    show b < (s.heap.push _).objs.size
    rw [Heap.size_push]
    rcases e' with z | z
    · subst z; exact Nat.lt_succ_self _
    · subst z; exact Nat.lt_succ_of_lt hlt
  · exact PyProof.Rows.IntsAre.int_at hi i v (by simpa using hv)
  · have hn : its.toArray.size = ns.length := by rw [List.size_toArray]; exact hi.length
    have hs : preSum (fun i => ns.getD i 0) ns.length = ns.sum := by
      have key : ∀ (k : Nat), k ≤ ns.length → preSum (fun i => ns.getD i 0) k = (ns.take k).sum := by
        intro k
        induction k with
        | zero => intro _; rfl
        | succ k ih =>
          intro hk
          rw [PyProof.Rows.take_sum_succ ns k (by omega), ← ih (by omega)]
          rfl
      rw [key _ (Nat.le_refl _), List.take_length]
    have fin := h h' tk t' fun b o e => hk b o (fun z => by
      have hb : b = s.heap.objs.size := by simpa using z
      subst hb
      rw [Heap.get?_none_of_le (Nat.le_refl _)] at e
      cases e) (Heap.get?_push_of_some _ e)
    rw [hn, hs]
    exact fin
theorem call_sum_tup (hc : X.calm = true) : CallR X (.builtin "sum") (fun vs H Q => ∃ (a : Addr) (ns : List Int), vs = [V.ref a] ∧ SqT X.K H a (ns.map V.int) ∧ Q (.int ns.sum) H) := by
  intro pins s σ H xs us Q I r ⟨a, ns, hx, ht, q⟩
  subst hx
  obtain ⟨u, hu, ru⟩ := vals1 r
  subst hu
  cases ru
  obtain ⟨its, rv, pl, _⟩ := I.tuple ht
  exact sum_tuple (I.ok.hd hc) pl (Vals.ints rv) fun h' tk t' hk => ⟨.int _, H, I.kept (t' := tk) hk, ⟨t', rfl⟩, q⟩
theorem b1_sum (hc : X.calm = true) : B1 X (.builtin "sum") bSum := by
  refine ⟨_, (cr_sum hc).or (call_sum_tup hc), fun F H a va w Q ha e q => ?_⟩
  unfold bSum at e
  split at e
  · obtain ⟨ns, e1, rfl⟩ := Option.map_eq_some_iff.mp e
    obtain ⟨l, xs, rfl, h1, d1⟩ := ha
    rw [ints?_some e1] at d1
    rw [d1.ints] at h1
    exact .inl ⟨l, ns, rfl, .inl h1, q _ _ (.val (.int _))⟩
  · obtain ⟨ns, e1, rfl⟩ := Option.map_eq_some_iff.mp e
    obtain ⟨l, xs, rfl, h1, d1⟩ := ha.tup_inv
    rw [ints?_some e1] at d1
    rw [d1.ints] at h1
    exact .inr ⟨l, ns, rfl, h1, q _ _ (.val (.int _))⟩
  · cases e
theorem b1_max (hc : X.calm = true) : B1 X (.builtin "max") bMax := by
  refine ⟨_, cr_max hc, fun F H a va w Q ha e q => ?_⟩
  unfold bMax at e
  split at e
  · obtain ⟨ns, e1, e⟩ := Option.bind_eq_some_iff.mp e
    cases ns with
    | nil => cases e
    | cons n ns =>
      cases e
      obtain ⟨l, xs, rfl, h1, d1⟩ := ha
      rw [ints?_some e1] at d1
      rw [d1.ints] at h1
      refine ⟨l, n :: ns, rfl, .inl h1, by simp, fun m hm hb => ?_⟩
      obtain ⟨z1, z2, z3⟩ := imax_ge ns n
      have e2 : m = imax n ns := by
        have y1 := hb _ z3
        rcases List.mem_cons.mp hm with y2 | y2
        · rw [y2] at y1 ⊢; omega
        · have := z2 m y2; omega
      rw [e2]
      exact q _ _ (.val (.int _))
  · cases e
theorem b1_min (hc : X.calm = true) : B1 X (.builtin "min") bMin := by
  refine ⟨_, cr_min hc, fun F H a va w Q ha e q => ?_⟩
  unfold bMin at e
  split at e
  · obtain ⟨ns, e1, e⟩ := Option.bind_eq_some_iff.mp e
    cases ns with
    | nil => cases e
    | cons n ns =>
      cases e
      obtain ⟨l, xs, rfl, h1, d1⟩ := ha
      rw [ints?_some e1] at d1
      rw [d1.ints] at h1
      refine ⟨l, n :: ns, rfl, .inl h1, by simp, fun m hm hb => ?_⟩
      obtain ⟨z1, z2, z3⟩ := imin_le ns n
      have e2 : m = imin n ns := by
        have y1 := hb _ z3
        rcases List.mem_cons.mp hm with y2 | y2
        · rw [y2] at y1 ⊢; omega
        · have := z2 m y2; omega
      rw [e2]
      exact q _ _ (.val (.int _))
  · cases e
theorem b2_max (hc : X.calm = true) : B2 X (.builtin "max") bMax2 := by
  refine ⟨_, call_max2 hc, fun F H a b va vb w Q ha hb e q => ?_⟩
  unfold bMax2 at e
  split at e
  · cases e
    cases ha.int_inv
    cases hb.int_inv
    exact ⟨_, _, rfl, q _ _ (.val (.int _))⟩
  · cases e
theorem b2_min (hc : X.calm = true) : B2 X (.builtin "min") bMin2 := by
  refine ⟨_, call_min2 hc, fun F H a b va vb w Q ha hb e q => ?_⟩
  unfold bMin2 at e
  split at e
  · cases e
    cases ha.int_inv
    cases hb.int_inv
    exact ⟨_, _, rfl, q _ _ (.val (.int _))⟩
  · cases e
theorem b1_all (hc : X.calm = true) : B1 X (.builtin "all") bAll := by
  refine ⟨_, cr_all hc, fun F H a va w Q ha e q => ?_⟩
  unfold bAll at e
  split at e
  · obtain ⟨ns, e1, rfl⟩ := Option.map_eq_some_iff.mp e
    obtain ⟨l, xs, rfl, h1, d1⟩ := ha
    rw [bools?_some e1] at d1
    rw [d1.bools] at h1
    exact ⟨l, ns, rfl, .inl h1, q _ _ (.val (.bl _))⟩
  · cases e
theorem b1_any (hc : X.calm = true) : B1 X (.builtin "any") bAny := by
  refine ⟨_, cr_any hc, fun F H a va w Q ha e q => ?_⟩
  unfold bAny at e
  split at e
  · obtain ⟨ns, e1, rfl⟩ := Option.map_eq_some_iff.mp e
    obtain ⟨l, xs, rfl, h1, d1⟩ := ha
    rw [bools?_some e1] at d1
    rw [d1.bools] at h1
    exact ⟨l, ns, rfl, .inl h1, q _ _ (.val (.bl _))⟩
  · cases e
theorem b1_list : B1 X (.type "list") bList := by
  refine ⟨_, call_list_of, fun F H a va w Q ha e q => ?_⟩
  unfold bList at e
  split at e
  · cases e
    obtain ⟨l, xs, rfl, h1, d1⟩ := ha
    exact ⟨l, xs, rfl, .inl (.inl h1), fun p hp => q _ _ (.lst hp d1)⟩
  · cases e
    obtain ⟨l, xs, rfl, h1, d1⟩ := ha.tup_inv
    exact ⟨l, xs, rfl, .inr h1, fun p hp => q _ _ (.lst hp d1)⟩
  · cases e
theorem b1_tuple : B1 X (.type "tuple") bTuple := by
  refine ⟨_, call_tuple_of, fun F H a va w Q ha e q => ?_⟩
  unfold bTuple at e
  split at e
  · cases e
    obtain ⟨l, xs, rfl, h1, d1⟩ := ha
    exact ⟨l, xs, rfl, .inl ⟨.inl h1, fun p hp => q _ _ (.tup hp d1)⟩⟩
  · cases e
    obtain ⟨l, xs, rfl, h1, d1⟩ := ha.tup_inv
    exact ⟨l, xs, rfl, .inr ⟨h1, q _ _ (.val (.tup h1 d1))⟩⟩
  · cases e
end

/-! ### dict of pairs -/
/-- a key put into pairs -/
def dPut (kvs : List (D × D)) (k : Key) (d : D) : List (D × D) :=
  if kvs.any (fun p => decide (kOf p.1 = some k)) then kvs.map (fun p => if kOf p.1 = some k then (p.1, d) else p) else kvs ++ [(kD k, d)]
def dMerge (acc : List (D × D)) : List (Key × D) → List (D × D)
  | [] => acc
  | (k, d) :: r => dMerge (dPut acc k d) r
/-- pairs of a key and a datum -/
def pairs? : List D → Option (List (Key × D))
  | [] => some []
  | .tuple [k, d] :: r => (kOf k).bind fun k' => (pairs? r).map fun r' => (k', d) :: r'
  | _ => none
def bDict : D → Option W
  | .list xs => (pairs? xs).bind fun ps => if ps.length ≤ 16777216 then some (.fr (.dict (dMerge [] ps))) else none
  | _ => none
section
variable {K : PySem.W.Frag} {F : Rg} {H : Hp}
theorem kOf_iff {k k' : Key} : (kOf (kD k') = some k) ↔ (k' = k) := by
  rw [kOf_kD]
  exact ⟨fun h => Option.some.inj h, fun h => by rw [h]⟩
theorem Dkv.any (k : Key) : ∀ {kvs : List (D × D)} {ks : List (Key × V)}, Dkv K F H kvs ks → kvs.any (fun p => decide (kOf p.1 = some k)) = ks.any (fun kv => decide (kv.1 = k))
  | _, _, .nil => rfl
  | _, _, .cons (k := k') h t => by
    rw [List.any_cons, List.any_cons, Dkv.any k t]
    congr 1
    exact decide_eq_decide.mpr kOf_iff
theorem Dkv.append : ∀ {kvs ls : List (D × D)} {ks ms : List (Key × V)}, Dkv K F H kvs ks → Dkv K F H ls ms → Dkv K F H (kvs ++ ls) (ks ++ ms)
  | _, _, _, _, .nil, s => s
  | _, _, _, _, .cons h t, s => .cons h (Dkv.append t s)
theorem Dkv.swap {d : D} {v : V} (h : Dt K F H d v) (k : Key) : ∀ {kvs : List (D × D)} {ks : List (Key × V)}, Dkv K F H kvs ks → Dkv K F H (kvs.map (fun p => if kOf p.1 = some k then (p.1, d) else p)) (ks.map fun kv => if kv.1 = k then (kv.1, v) else kv)
  | _, _, .nil => .nil
  | _, _, .cons (k := k') h' t => by
    have t' := Dkv.swap h k t
    rw [List.map_cons, List.map_cons]
    by_cases e : k' = k
    · rw [if_pos (kOf_iff.mpr e), if_pos e]
      exact .cons h t'
    · rw [if_neg (fun z => e (kOf_iff.mp z)), if_neg e]
      exact .cons h' t'
theorem Dkv.put {d : D} {v : V} (h : Dt K F H d v) (k : Key) {kvs : List (D × D)} {ks : List (Key × V)} (t : Dkv K F H kvs ks) : Dkv K F H (dPut kvs k d) (putK ks k v) := by
  unfold dPut putK
  rw [t.any k]
  split
  · exact t.swap h k
  · exact t.append (.cons h .nil)
theorem Dkv.merge : ∀ {ps : List (Key × D)} {rs : List (Key × V)} {kvs : List (D × D)} {ks : List (Key × V)}, Dkv K F H kvs ks → Paired (fun (p : Key × D) (q : Key × V) => p.1 = q.1 ∧ Dt K F H p.2 q.2) ps rs → Dkv K F H (dMerge kvs ps) (mergeK ks rs)
  | _, _, _, _, h, .nil => h
  | (k, d) :: ps, (k', v) :: rs, kvs, ks, h, .cons r t => by
    obtain ⟨e, hd⟩ := r
    have e : k = k' := e
    subst e
    show Dkv K F H (dMerge (dPut kvs k d) ps) (mergeK (putK ks k v) rs)
    exact Dkv.merge (Dkv.put hd k h) t
theorem pairs?_read : ∀ {ds : List D} {vs : List V} {ps : List (Key × D)}, Dts K F H ds vs → pairs? ds = some ps → ∃ (as : List Addr) (rs : List (Key × V)), vs = as.map V.ref ∧ Paired (fun p kv => SqT K H p [kV kv.1, kv.2]) as rs ∧ Paired (fun (p : Key × D) (q : Key × V) => p.1 = q.1 ∧ Dt K F H p.2 q.2) ps rs
  | _, _, _, .nil, e => by cases e; exact ⟨[], [], rfl, .nil, .nil⟩
  | _, _, ps, .cons (ds := ds) h t, e => by
    unfold pairs? at e
    split at e
    · rename_i heq; cases heq
    · rename_i k d r heq
      cases heq
      obtain ⟨k', e1, e⟩ := Option.bind_eq_some_iff.mp e
      obtain ⟨r', e2, e⟩ := Option.map_eq_some_iff.mp e
      subst e
      obtain ⟨as, rs, rfl, h1, h2⟩ := pairs?_read t e2
      cases h with
      | tup sq hh =>
        cases hh with
        | cons hk hh =>
          cases hh with
          | cons hd hh =>
            cases hh
            have := kOf_val e1 hk.top
            subst this
            exact ⟨_ :: as, (k', _) :: rs, rfl, .cons sq h1, .cons ⟨rfl, hd⟩ h2⟩
    · cases e
end
section
variable {X : Cx}
theorem b1_dict (hc : X.calm = true) : B1 X (.type "dict") bDict := by
  refine ⟨_, call_dictP hc, fun F H a va w Q ha e q => ?_⟩
  unfold bDict at e
  split at e
  · obtain ⟨ps, e1, e⟩ := Option.bind_eq_some_iff.mp e
    split at e
    · cases e
      obtain ⟨l, xs, rfl, h1, d1⟩ := ha
      obtain ⟨as, rs, rfl, h2, h3⟩ := pairs?_read d1 e1
      refine ⟨l, as, rs, rfl, .inl h1, h2, fun p hp => q _ _ ⟨p, _, rfl, hp, rfl, .inr ⟨_, _, rfl, upd_same, ?_⟩⟩⟩
      exact (Dkv.merge .nil h3).keeps (keeps_new hp)
    · cases e
  · cases e
end

/-! ### isinstance -/
def tyD : D → String
  | .none => "NoneType"
  | .bool _ => "bool"
  | .int _ => "int"
  | .str _ => "str"
  | .list _ => "list"
  | .tuple _ => "tuple"
  | .dict _ => "dict"
def isiB (a T : String) : Bool := a == T || (a == "bool" && T == "int")
def bIsi (T : String) : D → Option W := fun d => some (.sh (.bool (isiB (tyD d) T)))
section
variable {K : PySem.W.Frag} {F : Rg} {H : Hp}
theorem kit_all : ∀ T ∈ ["int", "bool", "tuple", "list", "str", "dict"], ∀ a ∈ ["NoneType", "bool", "int", "str", "list", "tuple", "dict"], kitB a T = some (isiB a T) := by decide +kernel
theorem tyX_of {d : D} {v : V} (h : Dtop K F H d v) : TyX K H v (.type (tyD d)) := by
  have h := h.all
  cases h with
  | non => exact .base .non
  | bl b => exact .base (.bl b)
  | int i => exact .base (.int i)
  | str x => exact .base (.str x)
  | lst _ r _ =>
    rcases r with r | ⟨o, r⟩
    · exact .base (.lst r)
    · exact .base (.frz r)
  | dik _ r _ =>
    rcases r with r | ⟨o, r⟩
    · exact .base (.dK r)
    · exact .fDict r
  | tup r _ =>
    rcases r with (r | ⟨o, r⟩) | ⟨o, its, n, hk, hc, _⟩
    · exact .base (.tup r)
    · exact .fTuple r
    · exact .kTuple hk hc
theorem tyD_mem (d : D) : tyD d ∈ ["NoneType", "bool", "int", "str", "list", "tuple", "dict"] := by cases d <;> simp [tyD]
end
section
variable {X : Cx} {p p2 pos : Pos} {a : Expr} {fa : DE} {T : Str} {t : String}
theorem ped_isi (hG : Gl X "isinstance") (hm : X.mg "isinstance" = none) (hGt : Gl X T) (hmt : X.mg T = none) (hv : bootBuiltins T = some (.type t)) (ht : t ∈ ["int", "bool", "tuple", "list", "str", "dict"]) (ha : PED X a fa) (hn : T ≠ "__name__" := by decide) (hdb : (T == ("__debug__" : Str)) = false := by decide)
    (he : starEach [a, .Name T p2] X.env = (false, eval a X.env) :: starEach [.Name T p2] X.env := by rfl) (he2 : starEach [Expr.Name T p2] X.env = (false, eval (.Name T p2) X.env) :: starEach [] X.env := by rfl) (hpl : (backTo pos (starEach [Expr.Name T p2] X.env)).any (·.1) = false := by rfl)
    (hb : bootBuiltins "isinstance" = some (.builtin "isinstance") := by decide +kernel) :
    PED X (.Call (.Name "isinstance" p) [a, .Name T p2] [] pos) (dB1 (bIsi t) fa) := fun g hg => (pe_callB call_isi hG hm hb (pa_cons (ha g hg) (pa_cons (pe_bltn (v := .ty t) hGt hmt hv rfl hn hdb) pa_nil he2) he) (by decide) (by decide) he hpl).wk fun σ H Q z => by
  obtain ⟨F, ρ, r0, w, ρ', e, q⟩ := z
  obtain ⟨⟨x, ρ1⟩, e1, e⟩ := Option.bind_eq_some_iff.mp e
  obtain ⟨da, e3, e⟩ := Option.bind_eq_some_iff.mp e
  obtain ⟨w', e5, e⟩ := Option.map_eq_some_iff.mp e
  cases e
  cases e5
  exact ⟨F, ρ, r0, x, ρ1, e1, fun v H1 F1 p1 => ⟨v, .ty t, _, _, _, rfl, .ty t, hg ▸ tyX_of (RW.top p1.t.post.rel p1.rw e3), kit_ty (kit_all t ht _ (tyD_mem da)), q _ H1 F1 (EPo.then r0 p1.t (EPo.val p1.t.post.rel (.bl _)))⟩⟩
end
end PD
set_option Elab.async false
set_option linter.all false
set_option maxRecDepth 100000
set_option maxHeartbeats 4000000
/-! PD13: what changes a list or dict of our own in place: methods, stores, augmented assignments; d.get. -/
namespace PD
set_option autoImplicit false
open PySem PySem.Spec L2
open PyProof.Rows hiding St

section
variable {g : G} {F F' : Rg} {ρ ρ' ρ1 : En} {σ σ' : St} {H H' : Hp}
/-- the heap with the list or dict of slot i changed -/
theorem after_mut {i : Nat} {c : Addr} {cd cd' : D} {o : HO} (r : Rel g F ρ σ H) (e : ρ.sl[i]? = some (some (.own cd))) (es : σ[i]? = some (some (.ref c))) (m : Mo g.K F (upd H c o) cd' c) :
    TPo g F ρ σ H F (ρ.own i cd') (upd H c o) := by
  have k : ∀ b u, b ≠ c → H b = some u → upd H c o b = some u := fun b u n h => by rw [upd_ne n]; exact h
  obtain ⟨r0, shr⟩ := r.mutate e es k m
  have own0 : OwnAt ρ σ c := ⟨i, cd, e, es⟩
  have hi := (List.getElem?_eq_some_iff.mp e).1
  refine ⟨⟨r0, fun _ h => h, fun b u h no => k b u (fun z => no (z ▸ own0)) h, fun b h => ?_, fun b h => .inl h, fun b h => .inl (shr b h)⟩, fun j s h => ?_, shr⟩
  · by_cases z : b = c
    · subst z; rw [upd_same]; exact fun y => nomatch y
    · rw [upd_ne z]; exact h
  · by_cases z : i = j
    · subst z
      exact ⟨_, List.getElem?_set_self hi⟩
    · exact ⟨s, by show (ρ.sl.set i _)[j]? = _; rw [List.getElem?_set_ne z]; exact h⟩
/-- what stands within the region stays when one of our own is changed -/
theorem keeps_mut {i : Nat} {c : Addr} {cd : D} {o : HO} (r : Rel g F ρ σ H) (e : ρ.sl[i]? = some (some (.own cd))) (es : σ[i]? = some (some (.ref c))) : Keeps F F H (upd H c o) := by
  have own0 : OwnAt ρ σ c := ⟨i, cd, e, es⟩
  refine keeps_of r (fun _ h => h) fun b u h no => ?_
  rw [upd_ne (fun z => no (by rw [z]; exact own0))]
  exact h
theorem Rel.ownMo {i : Nat} {cd : D} (r : Rel g F ρ σ H) (e : ρ.sl[i]? = some (some (.own cd))) : ∃ c, σ[i]? = some (some (.ref c)) ∧ Mo g.K F H cd c := by
  obtain ⟨c, h1, h2, _⟩ := r.own i cd e
  exact ⟨c, h1, h2⟩
end
/-- the datum of our own at slot i -/
def En.mine (ρ : En) (i : Nat) : Option D := match ρ.sl[i]? with
  | some (some (.own d)) => some d
  | _ => none
theorem En.mine_some {ρ : En} {i : Nat} {d : D} (h : ρ.mine i = some d) : ρ.sl[i]? = some (some (.own d)) := by
  unfold En.mine at h
  split at h
  · cases h; assumption
  · cases h

/-! ### methods that change -/
theorem Mo.tyV {K : PySem.W.Frag} {F : Rg} {H : Hp} {cd : D} {c : Addr} (mo : Mo K F H cd c) : L2.tyV K (tyD cd) (.ref c) H := by
  rcases mo with ⟨ds, xs, rfl, h2, _⟩ | ⟨kvs, ks, rfl, h2, _⟩
  · exact .inl ⟨rfl, xs, .inl (.inl h2)⟩
  · exact .inr (.inr (.inl ⟨rfl, .inl ⟨_, h2⟩⟩))
structure MX (X : Cx) (id : String) (sem : D → List D → Option (D × D)) : Prop where
  ex : ∃ r : V → List V → Hp → VK → Prop, MtR X id r ∧ ∀ (F : Rg) (H : Hp) (cd : D) (c : Addr) (ds : List D) (us : List V) (d cd' : D) (Q : VK), Mo X.K F H cd c → Dts X.K F H ds us → sem cd ds = some (d, cd') →
    (∀ v o, Dt X.K F (upd H c o) d v → Mo X.K F (upd H c o) cd' c → Q v (upd H c o)) → (∀ o, Keeps F F H (upd H c o)) → r (.ref c) us H Q
/-- x.m(..), x a name of our own -/
def dMut (T : String) (i : Nat) (fs : DA) (sem : D → List D → Option (D × D)) : DE := fun ρ => (ρ.mine i).bind fun c0 => if tyD c0 = T then (fs ρ).bind fun x => (gives x.1 x.2).bind fun y => (y.2.mine i).bind fun cd => (sem cd y.1).map fun z => (.sh z.1, y.2.own i z.2) else none
section
variable {X : Cx} {apos cpos : Pos} {e : Expr} {es : List Expr} {fs : DA} {name : Str} {T id : String} {sem : D → List D → Option (D × D)}
theorem mut_end {g : G} (hg : g.K = X.K) {i : Nat} {r : V → List V → Hp → VK → Prop} (hq : ∀ (F : Rg) (H : Hp) (cd : D) (c : Addr) (ds : List D) (us : List V) (d cd' : D) (Q : VK), Mo X.K F H cd c → Dts X.K F H ds us → sem cd ds = some (d, cd') →
    (∀ v o, Dt X.K F (upd H c o) d v → Mo X.K F (upd H c o) cd' c → Q v (upd H c o)) → (∀ o, Keeps F F H (upd H c o)) → r (.ref c) us H Q)
    {σ : St} {H : Hp} {Q : VK} (t : tE g (dMut T i fs sem) σ H Q) : tBM X.K T r (tVar i) (tA g fs) σ H Q := by
  obtain ⟨F, ρ, r0, w, ρ', e, q⟩ := t
  obtain ⟨cd0, e0, e⟩ := Option.bind_eq_some_iff.mp e
  split at e
  · rename_i hT
    obtain ⟨⟨ws, ρ1⟩, e1, e⟩ := Option.bind_eq_some_iff.mp e
    obtain ⟨⟨ds, ρ2⟩, e2, e⟩ := Option.bind_eq_some_iff.mp e
    obtain ⟨cd, e3, e⟩ := Option.bind_eq_some_iff.mp e
    obtain ⟨⟨d, cd'⟩, e4, e⟩ := Option.map_eq_some_iff.mp e
    cases e
    have m3 := En.mine_some e3
    obtain ⟨c, s0, mo0⟩ := r0.ownMo (En.mine_some e0)
    refine ⟨_, s0, hT ▸ hg ▸ mo0.tyV, F, ρ, r0, ws, ρ1, e1, fun vs H1 F1 p1 => ?_⟩
    obtain ⟨F2, p2, dd⟩ := p1.gives e2
    have r2 := p2.post.rel
    obtain ⟨c', s2, mo2⟩ := r2.ownMo m3
    rw [s0] at s2
    cases s2
    refine hq F2 H1 cd c ds vs d cd' Q (hg ▸ mo2) (hg ▸ dd) e4 (fun v o hd mo3 => ?_) fun o => keeps_mut r2 m3 s0
    have tp := after_mut r2 m3 s0 (hg ▸ mo3)
    exact q v _ F2 (EPo.then r0 p2 ⟨tp, (hg ▸ hd : Dt g.K F2 (upd H1 c o) d v), fun a z => by obtain ⟨⟨_, z⟩, _⟩ := z; cases z⟩)
  · cases e
theorem ped_mut (i : Nat) {x : Str} {p : Pos} (hm : MX X id sem) (pa : PlainAttrs T) (slot : Slot T name id) (hty : typeOf (.builtin id) = pure (.type "method_descriptor")) (hv : PE X (.Name x p) (tVar i)) (ha : PAD X (e :: es) fs)
    (hbase : attributeBase (.Name x p) name X.env (eval (.Name x p) X.env) = eval (.Name x p) X.env := by rfl)
    (hfew : ((backTo cpos (starEach (e :: es) X.env)).all (fun x => !x.1) && (backToKw cpos (keywordEach [] X.env)).all (fun x => x.1.isSome)
      && decide ((e :: es).length + ([] : List Keyword).length + (if ([] : List Keyword).isEmpty then 0 else 1) < 30)) = true := by rfl)
    (hline : (apos.endLine == cpos.line) = true := by rfl) (hs : starEach (e :: es) X.env = (false, eval e X.env) :: starEach es X.env := by rfl) (hplain : (backTo cpos (starEach es X.env)).any (·.1) = false := by rfl) :
    PED X (.Call (.Attribute (.Name x p) name apos) (e :: es) [] cpos) (dMut T i fs sem) := fun g hg => by
  obtain ⟨r, hr, hq⟩ := hm.ex
  exact (pe_bm pa slot hty hr hv (ha g hg) hbase hfew hline hs hplain).wk fun σ H Q t => mut_end hg hq t
theorem ped_mut0 (i : Nat) {x : Str} {p : Pos} (hm : MX X id sem) (pa : PlainAttrs T) (slot : Slot T name id) (hty : typeOf (.builtin id) = pure (.type "method_descriptor")) (hv : PE X (.Name x p) (tVar i))
    (hbase : attributeBase (.Name x p) name X.env (eval (.Name x p) X.env) = eval (.Name x p) X.env := by rfl) (hline : (apos.endLine == cpos.line) = true := by rfl) :
    PED X (.Call (.Attribute (.Name x p) name apos) [] [] cpos) (dMut T i dNil sem) := fun g hg => by
  obtain ⟨r, hr, hq⟩ := hm.ex
  refine (pe_bm0 pa slot hty hr hv hbase hline).wk fun σ H Q t => ?_
  obtain ⟨v, h1, h2, F, ρ, r0, ws, ρ1, e1, h3⟩ := mut_end hg hq t
  cases e1
  exact ⟨v, h1, h2, h3 [] H F ⟨TPo.refl r0, .nil, fun i y u a z => by cases z⟩⟩
end
section
variable {X : Cx} {apos cpos : Pos} {e : Expr} {fa : DE}
def mApp : D → List D → Option (D × D)
  | .list xs, [d] => if xs.length < 16777216 then some (.none, .list (xs ++ [d])) else none
  | _, _ => none
def mExt : D → List D → Option (D × D)
  | .list xs, [.list ys] => if xs.length + ys.length ≤ 16777216 then some (.none, .list (xs ++ ys)) else none
  | _, _ => none
def mPop : D → List D → Option (D × D)
  | .list xs, [] => xs.getLast?.map fun d => (d, .list xs.dropLast)
  | _, _ => none
def okIx (i : Int) : Prop := -9223372036854775808 ≤ i ∧ i < 9223372036854775808
open Classical in
noncomputable def mPop1 : D → List D → Option (D × D)
  | .list xs, [.int i] => if okIx i then (seqIndex? i xs.length).bind fun k => xs[k]?.map fun d => (d, .list (xs.eraseIdx k)) else none
  | _, _ => none
theorem Mo.lst_inv {K : PySem.W.Frag} {F : Rg} {H : Hp} {ds : List D} {c : Addr} (h : Mo K F H (.list ds) c) : ∃ xs, H c = some (.lst xs) ∧ Dts K F H ds xs := by
  rcases h with ⟨ds', xs, e, h2, h3⟩ | ⟨kvs, ks, e, h2, h3⟩
  · cases e; exact ⟨xs, h2, h3⟩
  · cases e
theorem Mo.dik_inv {K : PySem.W.Frag} {F : Rg} {H : Hp} {kvs : List (D × D)} {c : Addr} (h : Mo K F H (.dict kvs) c) : ∃ xs, H c = some (.dK xs) ∧ Dkv K F H kvs xs := by
  rcases h with ⟨ds', xs, e, h2, h3⟩ | ⟨kvs, ks, e, h2, h3⟩
  · cases e
  · cases e; exact ⟨ks, h2, h3⟩
theorem Mo.mkL {K : PySem.W.Frag} {F : Rg} {H : Hp} {ds : List D} {xs : List V} {c : Addr} (h : Dts K F (upd H c (.lst xs)) ds xs) : Mo K F (upd H c (.lst xs)) (.list ds) c := .inl ⟨ds, xs, rfl, upd_same, h⟩
theorem Mo.mkD {K : PySem.W.Frag} {F : Rg} {H : Hp} {ds : List (D × D)} {xs : List (Key × V)} {c : Addr} (h : Dkv K F (upd H c (.dK xs)) ds xs) : Mo K F (upd H c (.dK xs)) (.dict ds) c := .inr ⟨ds, xs, rfl, upd_same, h⟩
theorem Dts.one {K : PySem.W.Frag} {F : Rg} {H : Hp} {d : D} {us : List V} (h : Dts K F H [d] us) : ∃ u, us = [u] ∧ Dt K F H d u := by
  cases h with
  | cons h t => cases t; exact ⟨_, rfl, h⟩
theorem mx_append : MX X "list.append" mApp := by
  refine ⟨_, mt_append, fun F H cd c ds us d cd' Q mo hd e q k => ?_⟩
  unfold mApp at e
  split at e
  · split at e
    · rename_i hz
      cases e
      obtain ⟨xs, h1, h2⟩ := mo.lst_inv
      obtain ⟨u, rfl, hu⟩ := hd.one
      have kk := k (.lst (xs ++ [u]))
      exact ⟨c, xs, u, rfl, rfl, h1, by rw [sizeLine_eq, ← h2.length]; exact hz, q _ _ .non (.mkL ((h2.keeps kk).append (.cons (hu.keeps kk) .nil)))⟩
    · cases e
  · cases e
theorem dts_last {K : PySem.W.Frag} {F : Rg} {H : Hp} {ds : List D} {us : List V} {d : D} (h : Dts K F H ds us) (e : ds.getLast? = some d) : ∃ u, us[us.length - 1]? = some u ∧ Dt K F H d u := by
  rw [List.getLast?_eq_getElem?, h.length] at e
  exact h.get e
theorem mx_pop : MX X "list.pop" mPop := by
  refine ⟨_, mt_pop, fun F H cd c ds us d cd' Q mo hd e q k => ?_⟩
  unfold mPop at e
  split at e
  · obtain ⟨z, e1, e⟩ := Option.map_eq_some_iff.mp e
    cases e
    obtain ⟨xs, h1, h2⟩ := mo.lst_inv
    cases hd
    obtain ⟨u, hu, hd⟩ := dts_last h2 e1
    have kk := k (.lst xs.dropLast)
    exact ⟨c, xs, u, rfl, rfl, h1, hu, q _ _ (hd.keeps kk) (.mkL (h2.keeps kk).dropLast)⟩
  · cases e
theorem Dts.eraseIdx {K : PySem.W.Frag} {F : Rg} {H : Hp} : ∀ {ds : List D} {us : List V} (i : Nat), Dts K F H ds us → Dts K F H (ds.eraseIdx i) (us.eraseIdx i)
  | _, _, _, .nil => .nil
  | _, _, 0, .cons _ t => t
  | _, _, i + 1, .cons h t => .cons h (Dts.eraseIdx i t)
theorem mx_pop1 : MX X "list.pop" mPop1 := by
  refine ⟨_, mt_popAt, fun F H cd c ds us d cd' Q mo hd e q k => ?_⟩
  unfold mPop1 at e
  split at e
  · split at e
    · rename_i hz
      unfold okIx at hz
      obtain ⟨j, e0, e⟩ := Option.bind_eq_some_iff.mp e
      obtain ⟨z, e1, e⟩ := Option.map_eq_some_iff.mp e
      cases e
      obtain ⟨xs, h1, h2⟩ := mo.lst_inv
      obtain ⟨w, rfl, hw⟩ := hd.one
      cases hw
      rw [h2.length] at e0
      obtain ⟨u, hu, hd⟩ := h2.get e1
      have kk := k (.lst (xs.eraseIdx j))
      exact ⟨c, xs, _, j, u, rfl, rfl, h1, by omega, by omega, e0, hu, q _ _ (hd.keeps kk) (.mkL ((h2.keeps kk).eraseIdx j))⟩
    · cases e
  · cases e
/-- x.append(e) -/
theorem ped_append (i : Nat) {x : Str} {p : Pos} (hv : PE X (.Name x p) (tVar i)) (ha : PED X e fa)
    (hbase : attributeBase (.Name x p) "append" X.env (eval (.Name x p) X.env) = eval (.Name x p) X.env := by rfl)
    (hfew : ((backTo cpos (starEach [e] X.env)).all (fun x => !x.1) && (backToKw cpos (keywordEach [] X.env)).all (fun x => x.1.isSome)
      && decide ([e].length + ([] : List Keyword).length + (if ([] : List Keyword).isEmpty then 0 else 1) < 30)) = true := by rfl)
    (hline : (apos.endLine == cpos.line) = true := by rfl) (hs : starEach [e] X.env = (false, eval e X.env) :: starEach [] X.env := by rfl) :
    PED X (.Call (.Attribute (.Name x p) "append" apos) [e] [] cpos) (dMut "list" i (dCons fa dNil) mApp) :=
  ped_mut i mx_append PySem.F.plainAttrs_list PySem.F.slot_list_append PySem.F.type_list_append hv (pad_cons ha pad_nil hs) hbase hfew hline hs
end

/-! ### x[k] = e -/
def sSet : D → D → D → Option D
  | .list xs, .int k, d => (ixN xs.length k).map fun j => .list (xs.set j d)
  | .dict kvs, k, d => (kOf k).bind fun y => if kvs.length < 16777216 then some (.dict (dPut kvs y d)) else none
  | _, _, _ => none
def dStIx (i : Nat) (fe fi : DE) : DS := fun ρ => (fe ρ).bind fun x => (x.1.give x.2).bind fun y => (y.2.mine i).bind fun _ => (fi y.2).bind fun z => (z.1.get z.2).bind fun k => (z.2.mine i).bind fun cd => (sSet cd k y.1).map fun cd' => .nx (z.2.own i cd')
section
variable {X : Cx} {pos pt p : Pos} {x : Str} {e idx : Expr} {fe fi : DE}
theorem _root_.L2.PSet.or {t1 t2 : TSet} (h1 : PSet X t1) (h2 : PSet X t2) : PSet X (fun o i v H Q => t1 o i v H Q ∨ t2 o i v H Q) :=
  fun pins s σ H o i v ov iv u Q I ro ri rv h => h.elim (h1 pins s σ H o i v ov iv u Q I ro ri rv) (h2 pins s σ H o i v ov iv u Q I ro ri rv)
theorem psd_stIx (hu : X.A.units + 1 < cLine) (i : Nat) (hv : PE X (.Name x p) (tVar i)) (he : PED X e fe) (hi : PED X idx fi)
    (ha : ∀ v, assign (.Subscript (.Name x p) idx pt) X.env v = (do
      let ov ← holding [v] (eval (.Name x p) X.env)
      let iv ← holding [v, ov] (eval idx X.env)
      standAt pt
      holding [v, ov, iv] (setItem ov iv v)
      release [v, ov, iv] []) := by intro _; rfl)
    (hs : swapsWithSole [.Subscript (.Name x p) idx pt] e pos.line X.env = pure false := by rfl) (hw : swappedStores [.Subscript (.Name x p) idx pt] e X.env = pure none := by rfl)
    (h1 : (assignEach [.Subscript (.Name x p) idx pt] X.env).map (·.2) = [assign (.Subscript (.Name x p) idx pt) X.env] := by rfl) :
    PSD X (.Assign [.Subscript (.Name x p) idx pt] e pos) (dStIx i fe fi) := fun g hg => by
  refine (ps_asg (he g hg) (pg_sub hv (hi g hg) (set_list.or (set_dict hu)) ha) hs hw h1).wk fun E σ H t => ?_
  obtain ⟨F, ρ, r0, fl, e0, q⟩ := t
  obtain ⟨⟨w, ρ1⟩, e1, e0⟩ := Option.bind_eq_some_iff.mp e0
  obtain ⟨⟨d, ρ2⟩, e2, e0⟩ := Option.bind_eq_some_iff.mp e0
  obtain ⟨cd2, e2b, e0⟩ := Option.bind_eq_some_iff.mp e0
  obtain ⟨⟨z, ρ3⟩, e3, e0⟩ := Option.bind_eq_some_iff.mp e0
  obtain ⟨k, e4, e0⟩ := Option.bind_eq_some_iff.mp e0
  obtain ⟨cd, e5, e0⟩ := Option.bind_eq_some_iff.mp e0
  obtain ⟨cd', e6, e0⟩ := Option.map_eq_some_iff.mp e0
  cases e0
  refine ⟨F, ρ, r0, w, ρ1, e1, fun v H1 F1 p1 => ?_⟩
  obtain ⟨F2, p2, hd⟩ := p1.give e2
  have r2 := p2.post.rel
  obtain ⟨c, s2, mo2⟩ := r2.ownMo (En.mine_some e2b)
  refine ⟨_, s2, F2, ρ2, r2, z, ρ3, e3, fun vi H3 F3 p3 => ?_⟩
  have r3 := p3.t.post.rel
  have m5 := En.mine_some e5
  obtain ⟨c', s3, mo3⟩ := r3.ownMo m5
  rw [s2] at s3
  cases s3
  have tk := RW.top r3 p3.rw e4
  have hd3 := hd.keeps (p3.t.post.keeps r2)
  have fin : ∀ o, Mo g.K F3 (upd H3 c o) cd' c → E.nx σ (upd H3 c o) := fun o mo => q σ _ F3 (p2.trans r0 (p3.t.trans r2 (after_mut r3 m5 s2 mo))).post
  unfold sSet at e6
  split at e6
  · obtain ⟨j, ej, rfl⟩ := Option.map_eq_some_iff.mp e6
    obtain ⟨xs, h1, h2⟩ := mo3.lst_inv
    cases tk.int_inv
    rw [h2.length] at ej
    have kk := keeps_mut (o := .lst (xs.set j v)) r3 m5 s2
    exact .inl ⟨c, xs, _, j, rfl, rfl, h1, ej, fin _ (.mkL ((h2.keeps kk).set (hd3.keeps kk) j))⟩
  · obtain ⟨y, ey, e6⟩ := Option.bind_eq_some_iff.mp e6
    split at e6
    · rename_i hz
      cases e6
      obtain ⟨ks, h1, h2⟩ := mo3.dik_inv
      have := kOf_val ey tk
      subst this
      have kk := keeps_mut (o := .dK (putK ks y v)) r3 m5 s2
      exact .inr ⟨c, _, rfl, .inl ⟨ks, y, h1, rfl, by rw [sizeLine_eq, ← h2.length]; exact hz, rfl⟩, fin _ (.mkD ((h2.keeps kk).put (hd3.keeps kk) y))⟩
    · cases e6
  · cases e6
end

/-! ### name op= e -/
def dAug (i : Nat) (sem : D → D → Option W) (fe : DE) : DS := fun ρ => match ρ.sl[i]? with
  | some (some (.sh a)) => (fe ρ).bind fun x => (x.1.get x.2).bind fun b => (sem a b).bind fun w => match w with
    | .sh d => (x.2.set i (.sh d)).map .nx
    | _ => none
  | _ => none
/-- a list of our own += a list -/
def dAugL (i : Nat) (fe : DE) : DS := fun ρ => (ρ.mine i).bind fun _ => (fe ρ).bind fun x => (x.1.get x.2).bind fun b => (x.2.mine i).bind fun cd => match cd, b with
  | .list xs, .list ys => if xs.length + ys.length ≤ 16777216 then some (.nx (x.2.own i (.list (xs ++ ys)))) else none
  | _, _ => none
section
variable {X : Cx} {pos p : Pos} {x : Str} {e : Expr} {fe : DE} {op : Operator} {sem : D → D → Option W}
structure A2 (X : Cx) (op : Operator) (sem : D → D → Option W) : Prop where
  ex : ∃ r, PIp X op r ∧ ∀ (F : Rg) (H : Hp) (a b : D) (va vb : V) (w : W) (Q : VK), Dtop X.K F H a va → Dtop X.K F H b vb → sem a b = some w → (∀ v H', NewR X.K F H v H' w → Q v H') → r va vb H Q
theorem psd_aug {i : Nat} (ho : A2 X op sem) (hN : X.N.Nodup) (hi : X.N[i]? = some x) (hx : Loc X.env.scope x) (he : PED X e fe) (hf : X.fn x = true ∨ X.env.scope.names.lookup x = some .local := by first | exact .inl rfl | exact .inr rfl) :
    PSD X (.AugAssign (.Name x p) op e pos) (dAug i sem fe) := fun g hg => by
  obtain ⟨r, hr, hq⟩ := ho.ex
  refine (ps_aug hN hi hx (he g hg) hr hf).wk fun E σ H t => ?_
  obtain ⟨F, ρ, r0, fl, e0, q⟩ := t
  unfold dAug at e0
  split at e0
  · rename_i a ha
    obtain ⟨⟨w, ρ1⟩, e1, e0⟩ := Option.bind_eq_some_iff.mp e0
    obtain ⟨b, e2, e0⟩ := Option.bind_eq_some_iff.mp e0
    obtain ⟨w2, e3, e0⟩ := Option.bind_eq_some_iff.mp e0
    split at e0
    · rename_i d
      obtain ⟨ρ2, e4, e0⟩ := Option.map_eq_some_iff.mp e0
      cases e0
      obtain ⟨va, s0, hva⟩ := r0.sh i a ha
      refine ⟨va, s0, F, ρ, r0, w, ρ1, e1, fun v H1 F1 p1 => ?_⟩
      have r1 := p1.t.post.rel
      have hva1 := (hva.keeps (p1.t.post.keeps r0)).top
      refine hq F1 H1 a b va v _ _ (hg ▸ hva1) (hg ▸ RW.top r1 p1.rw e2) e3 fun v' H' n => ?_
      have n' : NewR g.K F1 H1 v' H' (.sh d) := hg ▸ n
      have ep := n'.epo r1
      obtain ⟨r5, own5⟩ := ep.t.post.rel.setSh (sh_inv ep.rw) e4
      have pp := (p1.t.trans r0 ep.t).post
      exact q _ H' F1 ⟨r5, pp.mono, pp.kept, pp.there, pp.newF, fun b h => pp.newO b (own5 b h)⟩
    · cases e0
  · cases e0
def bAugAdd : D → D → Option W
  | .int i, .int j => some (.sh (.int (i + j)))
  | _, _ => none
theorem a2_add : A2 X .Add bAugAdd := by
  refine ⟨_, ip_add, fun F H a b va vb w Q ha hb e q => ?_⟩
  unfold bAugAdd at e
  split at e
  · cases e
    cases ha.int_inv
    cases hb.int_inv
    exact ⟨_, _, rfl, rfl, q _ _ (.val (.int _))⟩
  · cases e
theorem iop_extR : OpR X (inplaceOp .Add) (fun x y H Q => ∃ l b xs zs, x = .ref l ∧ y = .ref b ∧ H l = some (.lst xs) ∧ Rd H b (.lst zs) ∧ xs.length + zs.length ≤ sizeLine ∧ Q (.ref l) (upd H l (.lst (xs ++ zs)))) := by
  intro pins s σ H x y v u Q I rx ry ⟨l, b, xs, zs, hx, hy, hH, hB, hz, q⟩
  subst hx hy
  cases rx
  cases ry
  obtain ⟨z, its, n, r, hl, e⟩ := I.lstM hH
  obtain ⟨its2, n2, r2, hl2, e2⟩ := lst_obj I hB
  have hsz : its.toArray.size + its2.toArray.size ≤ sizeLine := by rw [List.size_toArray, List.size_toArray]; omega
  have hlong : ¬ (!its.toArray.isEmpty && Builtin.List.listTooLong (its.toArray.size + its2.toArray.size)) = true := by
    rw [notLongL hsz, Bool.and_false]
    exact Bool.false_ne_true
  refine iadd_road ⟨_, e, rfl⟩ ⟨_, e2, rfl⟩ (call_meets PySem.F.slot_list_iadd ⟨_, e, rfl⟩ PySem.F.entry_list_iadd (PySem.F.args_list_iadd_2 _ _)
    (AutoSeq1.list___iadd___list_list_0 l its.toArray n b its2.toArray n2 hlong (by simp only [List.size_toArray]; omega) (by simp only [List.size_toArray]; omega)) ⟨e, e2, ?_⟩)
  refine ⟨.ref l, _, I.lset (its' := its ++ its2) (t' := s.toks) hH e (by simp) (r.append r2) ?_, rfl, q⟩
  rw [List.length_append]
  omega
theorem psd_augL {i : Nat} (hN : X.N.Nodup) (hi : X.N[i]? = some x) (hx : Loc X.env.scope x) (he : PED X e fe) (hf : X.fn x = true ∨ X.env.scope.names.lookup x = some .local := by first | exact .inl rfl | exact .inr rfl) :
    PSD X (.AugAssign (.Name x p) .Add e pos) (dAugL i fe) := fun g hg => by
  refine (ps_aug hN hi hx (he g hg) (ti := fun x y H Q => ∃ l b xs zs, x = .ref l ∧ y = .ref b ∧ H l = some (.lst xs) ∧ Rd H b (.lst zs) ∧ xs.length + zs.length ≤ sizeLine ∧ Q (.ref l) (upd H l (.lst (xs ++ zs)))) iop_extR hf).wk fun E σ H t => ?_
  obtain ⟨F, ρ, r0, fl, e0, q⟩ := t
  obtain ⟨cd0, e00, e0⟩ := Option.bind_eq_some_iff.mp e0
  obtain ⟨⟨w, ρ1⟩, e1, e0⟩ := Option.bind_eq_some_iff.mp e0
  obtain ⟨b, e2, e0⟩ := Option.bind_eq_some_iff.mp e0
  obtain ⟨cd, e3, e0⟩ := Option.bind_eq_some_iff.mp e0
  obtain ⟨c, s0, mo0⟩ := r0.ownMo (En.mine_some e00)
  refine ⟨_, s0, F, ρ, r0, w, ρ1, e1, fun v H1 F1 p1 => ?_⟩
  have r1 := p1.t.post.rel
  have m3 := En.mine_some e3
  obtain ⟨c', s3, mo3⟩ := r1.ownMo m3
  rw [s0] at s3
  cases s3
  have tb := RW.top r1 p1.rw e2
  split at e0
  · split at e0
    · rename_i hz
      cases e0
      obtain ⟨xs, h1, h2⟩ := mo3.lst_inv
      obtain ⟨l, ys, rfl, h3, h4⟩ := tb
      have kk := keeps_mut (o := .lst (xs ++ ys)) r1 m3 s0
      refine ⟨c, l, xs, ys, rfl, rfl, h1, h3, by rw [sizeLine_eq, ← h2.length, ← h4.length]; exact hz, ?_⟩
      have same : σ.set i (some (.ref c)) = σ := by
        obtain ⟨hl, e⟩ := List.getElem?_eq_some_iff.mp s0
        rw [← e, List.set_getElem_self]
      show E.nx (σ.set i (some (.ref c))) _
      rw [same]
      exact q σ _ F1 (p1.t.trans r0 (after_mut r1 m3 s0 (.mkL ((h2.keeps kk).append (h4.keeps kk))))).post
    · cases e0
  · cases e0
end

/-! ### d.get(k), d.get(k, x) -/
def W.isDict (w : W) (ρ : En) : Bool := match w.get ρ with
  | some (.dict _) => true
  | _ => false
def dGet1 (fa fb : DE) : DE := fun ρ => (fa ρ).bind fun x => if x.1.isDict x.2 = true then (fb x.2).bind fun y => (x.1.get y.2).bind fun a => (y.1.get y.2).bind fun b => match a with
  | .dict kvs => (kOf b).map fun k => (.sh ((dLook kvs k).getD .none), y.2)
  | _ => none
  else none
def dGet2 (fa fb fc : DE) : DE := fun ρ => (fa ρ).bind fun x => if x.1.isDict x.2 = true then (fb x.2).bind fun y => (fc y.2).bind fun z => (x.1.get z.2).bind fun a => (y.1.get z.2).bind fun b => match a with
  | .dict kvs => (kOf b).bind fun k => match dLook kvs k with
    | some d => some (.sh d, z.2)
    | none => some z
  | _ => none
  else none
section
variable {X : Cx} {o e f : Expr} {apos cpos : Pos} {fa fb fc : DE}
theorem isDict_at {g : G} {F : Rg} {ρ : En} {σ : St} {H : Hp} {v : V} {w : W} (r : Rel g F ρ σ H) (h : RW g F ρ σ H v w) (e : w.isDict ρ = true) : ∃ a, v = .ref a ∧ IsD H a := by
  unfold W.isDict at e
  split at e
  · rename_i kvs hk
    obtain ⟨a, ks, rfl, h1, _⟩ := RW.top r h hk
    exact ⟨a, rfl, .inl ⟨ks, h1⟩⟩
  · cases e
theorem ped_get1 (hu : X.A.units + 1 < cLine) (ho : PED X o fa) (he : PED X e fb) (m : M1 X o "get" apos e cpos := by exact ⟨rfl, rfl, rfl, rfl⟩) : PED X (.Call (.Attribute o "get" apos) [e] [] cpos) (dGet1 fa fb) := fun g hg => (pe_dget1 hu (ho g hg) (he g hg) m).wk fun σ H Q t => by
  obtain ⟨F, ρ, r0, w, ρ', e0, q⟩ := t
  obtain ⟨⟨x, ρ1⟩, e1, e0⟩ := Option.bind_eq_some_iff.mp e0
  split at e0
  · rename_i hd
    obtain ⟨⟨y, ρ2⟩, e2, e0⟩ := Option.bind_eq_some_iff.mp e0
    obtain ⟨a, e4, e0⟩ := Option.bind_eq_some_iff.mp e0
    obtain ⟨b, e5, e0⟩ := Option.bind_eq_some_iff.mp e0
    refine ⟨F, ρ, r0, x, ρ1, e1, fun v H1 F1 p1 => ?_⟩
    have r1 := p1.t.post.rel
    obtain ⟨c, rfl, d1⟩ := isDict_at r1 p1.rw hd
    refine ⟨c, rfl, d1, F1, ρ1, r1, y, ρ2, e2, fun v2 H2 F2 p2 => ?_⟩
    have r2 := p2.t.post.rel
    have t1 := RW.top r2 (p1.rw.step r1 p2.t) e4
    have t2 := RW.top r2 p2.rw e5
    split at e0
    · obtain ⟨k, e6, e0⟩ := Option.map_eq_some_iff.mp e0
      cases e0
      obtain ⟨c', ks, ec, h1, h2⟩ := t1
      cases ec
      have := kOf_val e6 t2
      subst this
      refine ⟨valV ks k, .inl ⟨ks, k, h1, rfl, rfl⟩, q _ H2 F2 (EPo.then r0 (p1.t.trans r0 p2.t) (EPo.val r2 ?_))⟩
      rcases h2.look k with ⟨z1, z2⟩ | ⟨d, v, z1, z2, hv⟩
      · rw [z1, z2]; exact .non
      · rw [z1, z2]; exact hv
    · cases e0
  · cases e0
theorem ped_get2 (hu : X.A.units + 1 < cLine) (ho : PED X o fa) (he : PED X e fb) (hf : PED X f fc) (m : M2 X o "get" apos e f cpos := by exact ⟨rfl, rfl, rfl, rfl⟩) : PED X (.Call (.Attribute o "get" apos) [e, f] [] cpos) (dGet2 fa fb fc) := fun g hg => (pe_dget2 hu (ho g hg) (he g hg) (hf g hg) m).wk fun σ H Q t => by
  obtain ⟨F, ρ, r0, w, ρ', e0, q⟩ := t
  obtain ⟨⟨x, ρ1⟩, e1, e0⟩ := Option.bind_eq_some_iff.mp e0
  split at e0
  · rename_i hd
    obtain ⟨⟨y, ρ2⟩, e2, e0⟩ := Option.bind_eq_some_iff.mp e0
    obtain ⟨⟨z, ρ3⟩, e3, e0⟩ := Option.bind_eq_some_iff.mp e0
    obtain ⟨a, e4, e0⟩ := Option.bind_eq_some_iff.mp e0
    obtain ⟨b, e5, e0⟩ := Option.bind_eq_some_iff.mp e0
    refine ⟨F, ρ, r0, x, ρ1, e1, fun v H1 F1 p1 => ?_⟩
    have r1 := p1.t.post.rel
    obtain ⟨c, rfl, d1⟩ := isDict_at r1 p1.rw hd
    refine ⟨c, rfl, d1, F1, ρ1, r1, y, ρ2, e2, fun v2 H2 F2 p2 => ?_⟩
    have r2 := p2.t.post.rel
    refine ⟨F2, ρ2, r2, z, ρ3, e3, fun v3 H3 F3 p3 => ?_⟩
    have r3 := p3.t.post.rel
    have t1 := RW.top r3 ((p1.rw.step r1 p2.t).step r2 p3.t) e4
    have t2 := RW.top r3 (p2.rw.step r2 p3.t) e5
    have pp := p1.t.trans r0 p2.t
    split at e0
    · obtain ⟨k, e6, e0⟩ := Option.bind_eq_some_iff.mp e0
      obtain ⟨c', ks, ec, h1, h2⟩ := t1
      cases ec
      have := kOf_val e6 t2
      subst this
      refine ⟨valV ks k, .inl ⟨ks, k, h1, rfl, rfl⟩, ?_⟩
      rcases h2.look k with ⟨z1, z2⟩ | ⟨d, v, z1, z2, hv⟩
      · rw [z2]
        rw [z1] at e0
        cases e0
        exact q _ H3 F3 (EPo.then r0 pp p3)
      · rw [z2]
        rw [z1] at e0
        cases e0
        exact q _ H3 F3 (EPo.then r0 (pp.trans r0 p3.t) (EPo.val r3 hv))
    · cases e0
  · cases e0
end

end PD
set_option Elab.async false
set_option linter.all false
set_option maxRecDepth 100000
set_option maxHeartbeats 4000000
/-! PD14: x[::-1]; walks over dicts; sums of a dict's values. -/
namespace PD
set_option autoImplicit false
open PySem PySem.Spec L2
open PyProof.Rows hiding St

section
variable {prog : Program} {w : World} {A : Around} {E : Value → Shared → Prop} {s : Shared}
theorem places_back (n : Nat) : Builtin.Slice.slicePlaces ((n : Int) - 1) (-1) (-1) = n := by
  unfold Builtin.Slice.slicePlaces
  rw [if_neg (by omega)]
  by_cases h : (n : Int) - 1 > -1
  · rw [if_pos h]
    have : ((n : Int) - 1 - -1 - 1) / - -1 + 1 = n := by
      rw [show - -(1 : Int) = 1 from rfl, Int.ediv_one]; omega
    rw [this, Int.toNat_natCast]
  · rw [if_neg h]
    have : n = 0 := by omega
    rw [this]; rfl
theorem applied_back {sl : Addr} {n : Nat} {t : Tok} {Q : Int × Int × Nat → Shared → Prop} (hs : s.heap.IsSliceOf sl .none .none (.int (-1) t)) (h : Q ((n : Int) - 1, -1, n) s) :
    wpAny (model prog w) A (Builtin.Slice.sliceApplied (.ref sl) (pure (n : Int))) Q E s := by
  obtain ⟨os, hos, hcs, hds⟩ := id hs
  unfold Builtin.Slice.sliceApplied Builtin.Slice.sliceFields
  refine wpAny_bind (wpAny_bind (wpAny_field hos hds (x := .none) rfl (wpAny_bind (wpAny_field hos hds (x := .none) rfl (wpAny_bind (wpAny_field hos hds (x := .int (-1) t) rfl (wpAny_pure ?_)))))))
  refine wpAny_bind (slicePart_int ?_)
  show wpAny _ _ (if ((-1 : Int) == 0) = true then _ else _) _ _ s
  rw [if_neg (by decide)]
  refine wpAny_bind (slicePart_none (wpAny_bind (slicePart_none (wpAny_bind (wpAny_pure ?_)))))
  show wpAny _ _ (pure ((n : Int) - 1, (-1 : Int), Builtin.Slice.slicePlaces ((n : Int) - 1) (-1) (-1))) _ _ s
  rw [places_back]
  exact wpAny_pure h
theorem fm_map {α β : Type} {f : α → Option β} {k : α → β} : ∀ {l : List α}, (∀ x ∈ l, f x = some (k x)) → l.filterMap f = l.map k
  | [], _ => rfl
  | x :: l, h => by
    rw [List.filterMap_cons, h x List.mem_cons_self, List.map_cons, fm_map fun y hy => h y (List.mem_cons_of_mem _ hy)]
theorem pick_back (xs : Array Value) : ((List.range xs.size).filterMap fun (m : Nat) => xs[(((xs.size : Int) - 1) + (m : Int) * -1).toNat]?).toArray = xs.toList.reverse.toArray := by
  congr 1
  have key : ∀ (l : List Value), ((List.range l.length).filterMap fun (m : Nat) => l[((l.length : Int) - 1 + (m : Int) * -1).toNat]?) = l.reverse := by
    intro l
    apply List.ext_getElem?
    intro i
    have e : ((List.range l.length).filterMap fun (m : Nat) => l[((l.length : Int) - 1 + (m : Int) * -1).toNat]?) = (List.range l.length).map fun m => l.getD (l.length - 1 - m) .none := by
      refine fm_map fun m hm => ?_
      have hm := List.mem_range.mp hm
      have e1 : ((l.length : Int) - 1 + (m : Int) * -1).toNat = l.length - 1 - m := by omega
      rw [e1]
      rw [List.getD_eq_getElem?_getD, List.getElem?_eq_getElem (by omega)]
      rfl
    rw [e, List.getElem?_map]
    by_cases hi : i < l.length
    · rw [List.getElem?_range hi, List.getElem?_reverse hi]
      show some (l.getD _ _) = _
      rw [List.getD_eq_getElem?_getD, List.getElem?_eq_getElem (by omega)]
      rfl
    · rw [List.getElem?_eq_none (by simpa using hi), List.getElem?_eq_none (by simpa using hi)]
      rfl
  have h := key xs.toList
  rw [Array.length_toList] at h
  rw [← h]
  refine congrArg (fun f => List.filterMap f (List.range xs.size)) (funext fun m => ?_)
  rw [Array.getElem?_toList]
theorem getItem_tuple_back {t sl : Addr} {items : Array Value} {u : Tok} {Q : Value → Shared → Prop} (ht : IsTup s.heap t items) (hs : s.heap.IsSliceOf sl .none .none (.int (-1) u))
    (h : Q (.ref s.heap.objs.size) { s with heap := s.heap.push { cls := .type "tuple", data := .seq items.toList.reverse.toArray } })
    (hsz : items.size ≤ sizeLine) : wpAny (model prog w) A (getItem (.ref t) (.ref sl)) Q E s := by
  have htake : sizeOk (.seq items.toList.reverse.toArray) := by
    show items.toList.reverse.toArray.size ≤ sizeLine
    rw [List.size_toArray, List.length_reverse, Array.length_toList]
    exact hsz
  obtain ⟨os, hos, hcs, hds⟩ := id hs
  have hTs : s.TypeIs (.ref sl) "slice" := ⟨os, hos, hcs⟩
  unfold getItem
  try with_reducible refine wpAny_holding ?_
  first | refine wpAny_bind (wpAny_pure ?_) | skip
  refine wpAny_bind (wpAny_sequenceKey ht.typeIs (by decide) ?_)
  refine wpAny_bind (wpAny_callSpecial?_slot (name := Str.ofString "__getitem__") ht.typeIs PyProof.Rows.slot_tuple_getitem
    (wpAny_call_entry PyProof.Rows.slot_tuple_getitem ht.typeIs PyProof.Rows.entry_tuple_getitem ?_ (PyProof.Rows.args_tuple_getitem _ _)))
  show wpAny _ _ (Builtin.Tuple.tupleItemsOf (.ref t) >>= _) _ _ s
  refine wpAny_bind (PyProof.Rows.tupleItemsOf_ ht ?_)
  refine wpAny_bind (wpAny_typeOf hTs ?_)
  rw [if_pos (by decide)]
  refine wpAny_bind (applied_back hs ?_)
  have hno : ¬ ((((items.size : Int) - 1) == 0 && (-1 : Int) == 1 && items.size == items.size) = true) := by
    intro q
    rw [Bool.and_eq_true, Bool.and_eq_true] at q
    exact absurd q.1.2 (by decide)
  show wpAny _ _ (if ((((items.size : Int) - 1) == 0 && (-1 : Int) == 1 && items.size == items.size) = true) then _ else _) _ _ s
  rw [if_neg hno, pick_back]
  first
    | exact wpAny_bind (m := Builtin.Tuple.tupleExact _) (wpAny_newObj_type (wpAny_pure ⟨_, rfl, wpAny_pure h⟩) htake)
    | exact wpAny_bind (m := Builtin.Tuple.tupleExact _) (wpAny_newObj_type (wpAny_bind (wpAny_pure (wpAny_pure ⟨_, rfl, wpAny_pure h⟩))) htake)
    | exact wpAny_bind (wpAny_bind (m := Builtin.Tuple.tupleExact _) (wpAny_newObj_type (wpAny_pure (wpAny_pure ⟨_, rfl, wpAny_pure h⟩)) htake))
    | exact wpAny_bind (wpAny_bind (m := Builtin.Tuple.tupleExact _) (wpAny_newObj_type (wpAny_pure ⟨_, rfl, wpAny_pure h⟩) htake))
end

/-! ### x[::-1] -/
section
variable {X : Cx}
def tRevA (K : PySem.W.Frag) (te : TE) : TE := fun σ H Q => te σ H fun x H1 => (∃ a xs, x = .ref a ∧ SqL K H1 a xs ∧ ∀ p, H1 p = none → Q (.ref p) (upd H1 p (.lst xs.reverse))) ∨ ∃ a xs, x = .ref a ∧ SqT K H1 a xs ∧ ∀ p, H1 p = none → Q (.ref p) (upd H1 p (.tup xs.reverse))
theorem pe_revA {e : Expr} {te : TE} {k : Nat} {p1 p2 p3 pos : Pos} (he : PE X e te) : PE X (.Subscript e (.Slice none none (some (.UnaryOp .USub (.Constant (.int 1) k p1) p2)) p3) pos) (tRevA X.K te) := by
  refine ⟨fun pins s σ H Q I h => ?_⟩
  refine Subscript_ (thn (he.run pins s σ H _ I h) fun v s1 ⟨x, H1, I1, r1, q1⟩ => ?_)
  obtain ⟨a, xs, ex, q5⟩ : ∃ (a : Addr) (xs : List V), x = .ref a ∧ ((SqL X.K H1 a xs ∧ ∀ p, H1 p = none → Q (.ref p) (upd H1 p (.lst xs.reverse))) ∨ (SqT X.K H1 a xs ∧ ∀ p, H1 p = none → Q (.ref p) (upd H1 p (.tup xs.reverse)))) := by
    rcases q1 with ⟨a, xs, e, h⟩ | ⟨a, xs, e, h⟩
    · exact ⟨a, xs, e, .inl h⟩
    · exact ⟨a, xs, e, .inr h⟩
  subst ex
  cases r1
  have minus : PO X (some (.UnaryOp .USub (.Constant (.int 1) k p1) p2)) (tPart (tUn (rU fun i => .int (-i)) (tC (.int 1)))) := po_some (pe_un un_neg pe_int)
  refine wpAny_Slice (thn (po_none.run pins s1 σ H1 (fun o H2 => o = none ∧ H2 = H1) I1 ⟨rfl, rfl⟩) fun vl s2 ⟨l, H2, I2, pl, el, e2⟩ => ?_)
  subst el e2
  refine thn (po_none.run pins s2 σ H2 (fun o H3 => o = none ∧ H3 = H2) I2 ⟨rfl, rfl⟩) fun vu s3 ⟨u, H3, I3, pu, eu, e3⟩ => ?_
  subst eu e3
  refine thn (minus.run pins s3 σ H3 (fun o H4 => o = some (-1) ∧ H4 = H3) I3 ⟨1, rfl, -1, rfl, rfl, rfl⟩) fun vs s4 ⟨o, H4, I4, ps, eo, e4⟩ => ?_
  subst eo e4
  have I5 : Inv X pins σ H4 { s4 with heap := s4.heap.push { cls := .type "slice", data := .fields #[vl, vu, vs] } } := I4.kept (t' := s4.toks) fun b ob q => Heap.get?_push_of_some _ q
  show wpAny (model X.prog X.w) X.A (subscriptTail e (.Slice none none (some (.UnaryOp .USub (.Constant (.int 1) k p1) p2)) p3) (.ref a) (.ref s4.heap.objs.size)) (EP X pins σ Q) X.xe { s4 with heap := s4.heap.push { cls := .type "slice", data := .fields #[vl, vu, vs] } }
  rcases q5 with ⟨hx, q⟩ | ⟨hx, q⟩
  · obtain ⟨its, r, ht, hz⟩ := I5.list hx
    have hlen := r.length
    refine tail_any (ops := [.ref a, .ref s4.heap.objs.size]) ht.isList.typeIs (PySem.slot_list_getitem.lookup) ?_ (by with_unfolding_all rfl)
    refine wpAny_getItem_list_slice ht.isList (Heap.IsSliceOf.new _ vl vu vs) pl pu ps (by decide) ?_ (by rw [List.size_toArray]; omega)
    rw [PySem.W.krv_pick]
    refine ⟨.ref _, _, I5.laid (t' := s4.toks) (o := .lst xs.reverse) (fun b ob q => Heap.get?_push_of_some _ q) (Nat.le_refl _) ?_, rfl, q _ (I5.hok.fresh (Nat.le_refl _))⟩
    exact ⟨by rw [List.length_reverse]; exact hz, _, 0, r.reverse, Heap.get?_push_size _ rfl⟩
  · obtain ⟨its, r, ht, hz⟩ := I5.tuple hx
    have hlen := r.length
    cases pl
    cases pu
    cases ps
    refine tail_any (ops := [.ref a, .ref s4.heap.objs.size]) ht.typeIs PyProof.Rows.slot_tuple_getitem.lookup ?_ (by with_unfolding_all rfl)
    refine getItem_tuple_back ht (Heap.IsSliceOf.new _ _ _ _) ?_ (by rw [List.size_toArray]; omega)
    refine ⟨.ref _, _, I5.laid (t' := s4.toks) (o := .tup xs.reverse) (fun b ob q => Heap.get?_push_of_some _ q) (Nat.le_refl _) ?_, rfl, q _ (I5.hok.fresh (Nat.le_refl _))⟩
    exact ⟨by rw [List.length_reverse]; exact hz, _, r.reverse, IsTup.new _ _⟩
def bRev : D → Option W
  | .list xs => some (.fr (.list xs.reverse))
  | .tuple xs => some (.sh (.tuple xs.reverse))
  | _ => none
theorem ped_rev {e : Expr} {fa : DE} {k : Nat} {p1 p2 p3 pos : Pos} (ha : PED X e fa) : PED X (.Subscript e (.Slice none none (some (.UnaryOp .USub (.Constant (.int 1) k p1) p2)) p3) pos) (dB1 bRev fa) := fun g hg => (pe_revA (ha g hg)).wk fun σ H Q t => by
  obtain ⟨F, ρ, r0, w, ρ', e, q⟩ := t
  obtain ⟨⟨x, ρ1⟩, e1, e⟩ := Option.bind_eq_some_iff.mp e
  obtain ⟨d, e2, e⟩ := Option.bind_eq_some_iff.mp e
  obtain ⟨w', e3, e⟩ := Option.map_eq_some_iff.mp e
  cases e
  refine ⟨F, ρ, r0, x, ρ1, e1, fun v H1 F1 p1 => ?_⟩
  have r1 := p1.t.post.rel
  have tp := RW.top r1 p1.rw e2
  have fin : ∀ v' H', NewR g.K F1 H1 v' H' w → Q v' H' := fun v' H' n => q v' H' F1 (EPo.then r0 p1.t (n.epo r1))
  unfold bRev at e3
  split at e3
  · cases e3
    obtain ⟨b, xs, rfl, h1, d1⟩ := tp
    exact .inl ⟨b, xs, rfl, .inl h1, fun p hp => fin _ _ (.lst hp d1.reverse)⟩
  · cases e3
    obtain ⟨b, xs, rfl, h1, d1⟩ := tp.tup_inv
    exact .inr ⟨b, xs, rfl, hg ▸ h1, fun p hp => fin _ _ (.tup hp d1.reverse)⟩
  · cases e3
end

/-! ### sum(d.values()) -/
section
variable {X : Cx} {o : Expr} {p pos apos mpos : Pos} {td : TE}
def tSumVals (td : TE) : TE := fun σ H Q => td σ H fun x H1 => ∃ (a : Addr) (kvs : List (Key × V)) (is : List Int), x = V.ref a ∧ Rd H1 a (.dK kvs) ∧ kvs.map (·.2) = is.map V.int ∧ Q (.int is.sum) H1
theorem preSum_list (ns : List Int) : preSum (fun i => ns.getD i 0) ns.length = ns.sum := by
  have key : ∀ (k : Nat), k ≤ ns.length → preSum (fun i => ns.getD i 0) k = (ns.take k).sum := by
    intro k
    induction k with
    | zero => intro _; rfl
    | succ k ih =>
      intro hk
      rw [PyProof.Rows.take_sum_succ ns k (by omega), ← ih (by omega)]
      rfl
  rw [key _ (Nat.le_refl _), List.take_length]
theorem pe_sumVals (hc : X.calm = true) (hg : Gl X "sum") (hm : X.mg "sum" = none) (hd : PE X o td) (hbase : attributeBase o "values" X.env (eval o X.env) = eval o X.env := by rfl) (hline : (apos.endLine == mpos.line) = true := by rfl)
    (hse : starEach [Expr.Call (.Attribute o "values" apos) [] [] mpos] X.env = [(false, eval (Expr.Call (.Attribute o "values" apos) [] [] mpos) X.env)] := by rfl) :
    PE X (.Call (.Name "sum" p) [.Call (.Attribute o "values" apos) [] [] mpos] [] pos) (tSumVals td) := by
  refine ⟨fun pins s σ H Q I h => ?_⟩
  refine wpAny_Call_Name_kw (ld_blt I hg hm (u := .builtin "sum") (by first | rfl | decide +kernel) ?_ (by first | decide +kernel | decide) (by first | decide +kernel | decide))
  rw [hse]
  refine PySem.callWith_builtin1 (wpAny_Call_method0_late hbase hline (thn (hd.run pins s σ H _ I h) fun v s1 ⟨x, H1, I1, r1, a, kvs, is, ex, ha, hv, q⟩ => ?_))
  subst ex
  obtain rfl : v = Value.ref a := r1
  obtain ⟨_, notSys, vs, rel, dof⟩ := dk_rd I1.hok ha
  obtain ⟨ep, dat⟩ := dof.dictAt
  have dat' := dat
  obtain ⟨ob, es, ho, ex, hdat, hko, hpr, hnd⟩ := dat'
  refine ⟨"dict", "dict.values", F.plainAttrs_dict, F.slot_dict_values, F.type_dict_values, ⟨ob, ho, ex.1⟩, fun b e => ?_, Calls.callWith_builtin rfl (PySem.evalArgs_none ?_)⟩
  · cases e
    exact ⟨ob, ho, ex.2.1⟩
  refine call_meetsIn F.slot_dict_values ⟨ob, ho, ex.1⟩ F.entry_dict_values (F.args_dict_values_1 _) (meets_dict_values (mixKind X.prog X.w) a notSys) ⟨⟨vs, dof⟩, ?_⟩
  have k1 : ∀ b u, s1.heap.get? b = some u → (s1.heap.push { cls := .type "dict_values", data := .fields #[.ref a] }).get? b = some u := fun b u e => Heap.get?_push_of_some _ e
  have dat1 : (s1.heap.push { cls := .type "dict_values", data := .fields #[.ref a] }).DictAt (mixKind X.prog X.w) a vs ep := dat.keep k1
  have many : vs.length = is.length := by
    have e1 := congrArg List.length hv
    rw [List.length_map, List.length_map] at e1
    rw [← e1]
    exact (KV.length rel).symm
  have each : ∀ (i : Nat) (v : Value), (∃ k, vs[i]? = some (k, v)) → ∃ t, v = Value.int (is.getD i 0) t := fun i v ⟨k, hk⟩ => by
    obtain ⟨x, h1, h2⟩ := KV.at' rel hk
    have e1 : (kvs.map (·.2))[i]? = some x := by rw [List.getElem?_map, h1] <;> rfl
    rw [hv, List.getElem?_map] at e1
    obtain ⟨j, hj, e2⟩ := Option.map_eq_some_iff.mp e1
    subst e2
    obtain ⟨t, e3⟩ := h2
    refine ⟨t, ?_⟩
    rw [e3, List.getD_eq_getElem?_getD, hj] <;> rfl
  refine call_sum_walkG (wpAny_pyIter_values (v := s1.heap.objs.size) (d := a) ⟨_, Heap.get?_push_size _ rfl, rfl, rfl⟩ dat1 ?_)
  have below : a < s1.heap.objs.size := Heap.lt_size ho
  have more : (s1.heap.push { cls := .type "dict_values", data := .fields #[.ref a] }).objs.size = s1.heap.objs.size + 1 := Heap.size_push _ _
  refine ⟨_, _, _, _, _, _, fun i => is.getD i 0, rfl, Walks.dictValues (knd := mixKind X.prog X.w) (A := X.A.in1) (I.ok.hd hc) (s1.heap.push { cls := .type "dict_values", data := .fields #[.ref a] }).objs.size a (by rw [more]; exact Nat.ne_of_lt (Nat.lt_succ_of_lt below)) vs ep,
    ⟨⟨_, Heap.get?_push_size _ rfl, rfl, rfl⟩, dat1.keep fun b u e => Heap.get?_push_of_some _ e⟩, fun b hb => ?_, each, fun h' tk t' hk => ?_⟩
  · show b < ((s1.heap.push _).push _).objs.size
    rw [Heap.size_push, Heap.size_push]
    rw [more] at hb
    rcases List.mem_cons.mp hb with e | hb
    · rw [e]
      exact Nat.lt_succ_self _
    · have e : b = a := List.mem_singleton.mp hb
      rw [e]
      exact Nat.lt_succ_of_lt (Nat.lt_succ_of_lt below)
  · rw [many, preSum_list]
    refine ⟨.int _, H1, I1.kept (t' := tk) fun b u e => hk b u (fun hmem => ?_) (Heap.get?_push_of_some _ (k1 b u e)), ⟨t', rfl⟩, q⟩
    have e1 : b = (s1.heap.push { cls := .type "dict_values", data := .fields #[.ref a] }).objs.size := List.mem_singleton.mp hmem
    have e2 := Heap.lt_size e
    rw [more] at e1
    rw [e1] at e2
    exact absurd e2 (Nat.not_lt.mpr (Nat.le_succ _))
def bSumVals : D → Option W
  | .dict kvs => (ints? (kvs.map (·.2))).map fun ns => .sh (.int ns.sum)
  | _ => none
theorem Dkv.vals {K : PySem.W.Frag} {F : Rg} {H : Hp} : ∀ {kvs : List (D × D)} {ks : List (Key × V)}, Dkv K F H kvs ks → Dts K F H (kvs.map (·.2)) (ks.map (·.2))
  | _, _, .nil => .nil
  | _, _, .cons h t => .cons h (Dkv.vals t)
theorem ped_sumVals {fa : DE} (hc : X.calm = true) (hG : Gl X "sum") (hm : X.mg "sum" = none) (ha : PED X o fa) (hbase : attributeBase o "values" X.env (eval o X.env) = eval o X.env := by rfl) (hline : (apos.endLine == mpos.line) = true := by rfl)
    (hse : starEach [Expr.Call (.Attribute o "values" apos) [] [] mpos] X.env = [(false, eval (Expr.Call (.Attribute o "values" apos) [] [] mpos) X.env)] := by rfl) :
    PED X (.Call (.Name "sum" p) [.Call (.Attribute o "values" apos) [] [] mpos] [] pos) (dB1 bSumVals fa) := fun g hg => (pe_sumVals hc hG hm (ha g hg) hbase hline hse).wk fun σ H Q t => by
  obtain ⟨F, ρ, r0, w, ρ', e, q⟩ := t
  obtain ⟨⟨x, ρ1⟩, e1, e⟩ := Option.bind_eq_some_iff.mp e
  obtain ⟨d, e2, e⟩ := Option.bind_eq_some_iff.mp e
  obtain ⟨w', e3, e⟩ := Option.map_eq_some_iff.mp e
  cases e
  refine ⟨F, ρ, r0, x, ρ1, e1, fun v H1 F1 p1 => ?_⟩
  have r1 := p1.t.post.rel
  have tp := RW.top r1 p1.rw e2
  unfold bSumVals at e3
  split at e3
  · obtain ⟨ns, e4, e3⟩ := Option.map_eq_some_iff.mp e3
    cases e3
    obtain ⟨b, ks, rfl, h1, d1⟩ := tp
    have dv := d1.vals
    rw [ints?_some e4] at dv
    exact ⟨b, ks, ns, rfl, h1, dv.ints, q _ _ F1 (EPo.then r0 p1.t (EPo.val r1 (.int _)))⟩
  · cases e3
end
end PD
set_option Elab.async false
set_option linter.all false
set_option maxRecDepth 100000
set_option maxHeartbeats 4000000
/-! PD15: walks over a dict that is named: locked while it is walked. -/
namespace PD
set_option autoImplicit false
open PySem PySem.Spec L2
open PyProof.Rows hiding St

theorem nfz_lst {xs : List V} (o : Obj) (x : HO) : HO.lst xs ≠ .frz o x := fun z => nomatch z
theorem nfz_dK {xs : List (Key × V)} (o : Obj) (x : HO) : HO.dK xs ≠ .frz o x := fun z => nomatch z
/-- readings that stay over locking and unlocking a dict -/
structure KeepsW (K : PySem.W.Frag) (F F' : Rg) (H H' : Hp) : Prop where
  inn : ∀ a, F a → F' a
  sqt : ∀ a xs, SqT K H a xs → SqT K H' a xs
  obj : ∀ b u, F b → (∀ o x, u ≠ .frz o x) → Rd H b u → Rd H' b u
section
variable {K : PySem.W.Frag} {F F' : Rg} {H H' : Hp}
mutual
theorem Dt.keepsW (k : KeepsW K F F' H H') : ∀ {d : D} {v : V}, Dt K F H d v → Dt K F' H' d v
  | _, _, .non => .non
  | _, _, .bl b => .bl b
  | _, _, .int i => .int i
  | _, _, .str x => .str x
  | _, _, .lst f r ds => .lst (k.inn _ f) (k.obj _ _ f nfz_lst r) (Dts.keepsW k ds)
  | _, _, .tup r ds => .tup (k.sqt _ _ r) (Dts.keepsW k ds)
  | _, _, .dik f r ds => .dik (k.inn _ f) (k.obj _ _ f nfz_dK r) (Dkv.keepsW k ds)
theorem Dts.keepsW (k : KeepsW K F F' H H') : ∀ {ds : List D} {vs : List V}, Dts K F H ds vs → Dts K F' H' ds vs
  | _, _, .nil => .nil
  | _, _, .cons h t => .cons (Dt.keepsW k h) (Dts.keepsW k t)
theorem Dkv.keepsW (k : KeepsW K F F' H H') : ∀ {ds : List (D × D)} {vs : List (Key × V)}, Dkv K F H ds vs → Dkv K F' H' ds vs
  | _, _, .nil => .nil
  | _, _, .cons h t => .cons (Dt.keepsW k h) (Dkv.keepsW k t)
end
theorem Mo.keepsW {d : D} {a : Addr} (k : KeepsW K F F' H H') (e : ∀ o, H a = some o → H' a = some o) (h : Mo K F H d a) : Mo K F' H' d a := by
  rcases h with ⟨ds, xs, h1, h2, h3⟩ | ⟨ds, xs, h1, h2, h3⟩
  · exact .inl ⟨ds, xs, h1, e _ h2, h3.keepsW k⟩
  · exact .inr ⟨ds, xs, h1, e _ h2, h3.keepsW k⟩
theorem keepsW_lock {d : Addr} {od : Obj} {ks : List (Key × V)} (hd : H d = some (.dK ks)) : KeepsW K F F H (upd H d (.frz od (.dK ks))) where
  inn := fun _ h => h
  sqt := fun a xs h => by
    have ne : ∀ u, H a = some u → (∀ kk, u ≠ .dK kk) → a ≠ d := fun u e n z => by subst z; rw [hd] at e; cases e; exact n _ rfl
    rcases h with (h | ⟨o, h⟩) | h
    · exact .inl (.inl (by rw [upd_ne (ne _ h fun _ z => nomatch z)]; exact h))
    · exact .inl (.inr ⟨o, by rw [upd_ne (ne _ h fun _ z => nomatch z)]; exact h⟩)
    · exact .inr h
  obj := fun b u _ nu h => by
    by_cases z : b = d
    · subst z
      rcases h with h | ⟨o, h⟩
      · rw [hd] at h; cases h
        exact .inr ⟨od, upd_same⟩
      · rw [hd] at h; cases h
    · rcases h with h | ⟨o, h⟩
      · exact .inl (by rw [upd_ne z]; exact h)
      · exact .inr ⟨o, by rw [upd_ne z]; exact h⟩
theorem keepsW_unlock {d : Addr} {od : Obj} {ks : List (Key × V)} (hd : H d = some (.frz od (.dK ks))) : KeepsW K F F H (upd H d (.dK ks)) where
  inn := fun _ h => h
  sqt := fun a xs h => by
    have ne : ∀ u, H a = some u → u ≠ .frz od (.dK ks) → a ≠ d := fun u e n z => by subst z; rw [hd] at e; cases e; exact n rfl
    rcases h with (h | ⟨o, h⟩) | h
    · exact .inl (.inl (by rw [upd_ne (ne _ h fun z => nomatch z)]; exact h))
    · exact .inl (.inr ⟨o, by rw [upd_ne (ne _ h fun z => nomatch z)]; exact h⟩)
    · exact .inr h
  obj := fun b u _ nu h => by
    by_cases z : b = d
    · subst z
      rcases h with h | ⟨o, h⟩
      · rw [hd] at h; cases h
        exact absurd rfl (nu _ _)
      · rw [hd] at h; cases h
        exact .inl upd_same
    · rcases h with h | ⟨o, h⟩
      · exact .inl (by rw [upd_ne z]; exact h)
      · exact .inr ⟨o, by rw [upd_ne z]; exact h⟩
end

open Classical in
/-- the entry heap with the dict at d locked -/
noncomputable def lockG (g : G) (d : Addr) (u : HO) : G := { g with H0 := fun a => if a = d ∧ g.H0 d ≠ none then some u else g.H0 a }
section
variable {g : G} {F F' : Rg} {ρ ρ' ρ1 : En} {σ σ' : St} {H H' : Hp} {d : Addr} {od : Obj} {ks : List (Key × V)}
theorem lockG_none {u : HO} {a : Addr} : (lockG g d u).H0 a = none ↔ g.H0 a = none := by
  unfold lockG
  simp only
  by_cases h : a = d ∧ g.H0 d ≠ none
  · rw [if_pos h]
    exact ⟨(fun z => nomatch z), fun z => absurd (h.1 ▸ z) h.2⟩
  · rw [if_neg h]
theorem lockG_at {u o : HO} {a : Addr} (h : (lockG g d u).H0 a = some o) : (a = d ∧ o = u ∧ g.H0 d ≠ none) ∨ (a ≠ d ∧ g.H0 a = some o) := by
  unfold lockG at h
  simp only at h
  by_cases z : a = d ∧ g.H0 d ≠ none
  · rw [if_pos z] at h
    exact .inl ⟨z.1, (Option.some.inj h).symm, z.2⟩
  · rw [if_neg z] at h
    refine .inr ⟨fun e => z ⟨e, ?_⟩, h⟩
    subst e
    rw [h]
    exact fun y => nomatch y
theorem Rel.notCup (r : Rel g F ρ σ H) (f : F d) : g.cup ≠ some d := fun z => by
  cases hc : ρ.cup with
  | false => rw [r.cupF hc] at z; cases z
  | true =>
    obtain ⟨c, dd, c1, c2, c3⟩ := r.cupT hc
    rw [z] at c1
    cases c1
    exact r.notOwnF f ⟨0, dd, c3, c2⟩
theorem Rel.lock (r : Rel g F ρ σ H) (fd : F d) (hd : H d = some (.dK ks)) : Rel (lockG g d (.frz od (.dK ks))) F ρ σ (upd H d (.frz od (.dK ks))) where
  len := r.len
  sh := fun i x e => let ⟨v, h1, h2⟩ := r.sh i x e; ⟨v, h1, h2.keepsW (keepsW_lock hd)⟩
  own := fun i x e => by
    obtain ⟨a, h1, mo, nF, f⟩ := r.own i x e
    refine ⟨a, h1, mo.keepsW (keepsW_lock hd) (fun o h => ?_), nF, f.imp (fun z => lockG_none.mpr z) id⟩
    rw [upd_ne (fun z => nF (by rw [z]; exact fd))]
    exact h
  dist := r.dist
  cupT := r.cupT
  cupF := r.cupF
  F0 := r.F0
  Fn := fun a f => (r.Fn a f).imp id fun z => lockG_none.mpr z
  Fs := fun a f => by
    by_cases z : a = d
    · subst z; rw [upd_same]; exact fun y => nomatch y
    · rw [upd_ne z]; exact r.Fs a f
  base := fun a o h n => by
    rcases lockG_at h with ⟨rfl, rfl, _⟩ | ⟨ne, h⟩
    · exact upd_same
    · rw [upd_ne ne]; exact r.base a o h n
theorem Rel.unlock (r0 : Rel g F ρ σ H) (fd0 : F d) (hd0 : H d = some (.dK ks)) (fd : F' d) (r : Rel (lockG g d (.frz od (.dK ks))) F' ρ' σ' H') (hd : H' d = some (.frz od (.dK ks))) : Rel g F' ρ' σ' (upd H' d (.dK ks)) where
  len := r.len
  sh := fun i x e => let ⟨v, h1, h2⟩ := r.sh i x e; ⟨v, h1, h2.keepsW (keepsW_unlock hd)⟩
  own := fun i x e => by
    obtain ⟨a, h1, mo, nF, f⟩ := r.own i x e
    refine ⟨a, h1, mo.keepsW (keepsW_unlock hd) (fun o h => ?_), nF, f.imp (fun z => lockG_none.mp z) id⟩
    rw [upd_ne (fun z => nF (by rw [z]; exact fd))]
    exact h
  dist := r.dist
  cupT := r.cupT
  cupF := r.cupF
  F0 := r.F0
  Fn := fun a f => (r.Fn a f).imp id fun z => lockG_none.mp z
  Fs := fun a f => by
    by_cases z : a = d
    · subst z; rw [upd_same]; exact fun y => nomatch y
    · rw [upd_ne z]; exact r.Fs a f
  base := fun a o h n => by
    by_cases z : a = d
    · subst z
      have := r0.base a o h n
      rw [hd0] at this
      cases this
      exact upd_same
    · rw [upd_ne z]
      refine r.base a o ?_ n
      unfold lockG
      simp only
      rw [if_neg (fun y => z y.1)]
      exact h
theorem Post.locked (r : Rel g F ρ σ H) (fd : F d) (hd : H d = some (.dK ks)) (p : Post (lockG g d (.frz od (.dK ks))) F ρ σ (upd H d (.frz od (.dK ks))) F' ρ' σ' H') : H' d = some (.frz od (.dK ks)) := p.kept d _ upd_same (r.notOwnF fd)
theorem Post.unlock (r : Rel g F ρ σ H) (fd : F d) (hd : H d = some (.dK ks)) (p : Post (lockG g d (.frz od (.dK ks))) F ρ σ (upd H d (.frz od (.dK ks))) F' ρ' σ' H') : Post g F ρ σ H F' ρ' σ' (upd H' d (.dK ks)) := by
  have he := p.locked r fd hd
  have none_of : ∀ b, upd H d (.frz od (.dK ks)) b = none → H b = none := fun b z => by
    by_cases y : b = d
    · subst y; rw [upd_same] at z; cases z
    · rw [upd_ne y] at z; exact z
  refine ⟨r.unlock fd hd (p.mono d fd) p.rel he, p.mono, fun b o h no => ?_, fun b h => ?_, fun b h => ?_, fun b h => ?_⟩
  · by_cases z : b = d
    · subst z
      rw [hd] at h
      cases h
      exact upd_same
    · rw [upd_ne z]
      exact p.kept b o (by rw [upd_ne z]; exact h) no
  · by_cases z : b = d
    · subst z; rw [upd_same]; exact fun y => nomatch y
    · rw [upd_ne z]; exact p.there b (by rw [upd_ne z]; exact h)
  · rcases p.newF b h with z | z | z
    · exact .inl z
    · exact .inr (.inl (none_of b z))
    · exact .inr (.inr z)
  · rcases p.newO b h with z | z
    · exact .inl z
    · exact .inr (none_of b z)
theorem RW.unlock {w : W} {v : V} (fd : F' d) (he : H' d = some (.frz od (.dK ks))) (h : RW (lockG g d (.frz od (.dK ks))) F' ρ' σ' H' v w) : RW g F' ρ' σ' (upd H' d (.dK ks)) v w := by
  cases w with
  | sh x => exact Dt.keepsW (keepsW_unlock he) h
  | fr x =>
    obtain ⟨a, e, mo, nF, no, h0⟩ := h
    refine ⟨a, e, mo.keepsW (keepsW_unlock he) (fun o h => ?_), nF, no, lockG_none.mp h0⟩
    rw [upd_ne (fun z => nF (by rw [z]; exact fd))]
    exact h
  | vr i => exact h
theorem EPo.unlock {w : W} {v : V} (r : Rel g F ρ σ H) (fd : F d) (hd : H d = some (.dK ks)) (p : EPo (lockG g d (.frz od (.dK ks))) F ρ σ (upd H d (.frz od (.dK ks))) w ρ' v F' H') : EPo g F ρ σ H w ρ' v F' (upd H' d (.dK ks)) := by
  have he := p.t.post.locked r fd hd
  have fd' := p.t.post.mono d fd
  refine ⟨⟨p.t.post.unlock r fd hd, p.t.pres, p.t.shr⟩, p.rw.unlock fd' he, fun a h => ?_⟩
  · have := p.new a h
    by_cases y : a = d
    · subst y; rw [upd_same] at this; cases this
    · rw [upd_ne y] at this; exact this
theorem var_epo {j : Nat} {w : W} (r : Rel g F ρ σ H) (e : dVar j ρ = some (w, ρ')) : ρ' = ρ ∧ ∃ v, σ[j]? = some (some v) ∧ EPo g F ρ σ H w ρ v F H := by
  unfold dVar at e
  split at e
  · rename_i x hx
    cases e
    obtain ⟨v, e1, h⟩ := r.sh j x hx
    exact ⟨rfl, v, e1, EPo.val r h⟩
  · rename_i x hx
    cases e
    obtain ⟨a, e1, _⟩ := r.own j x hx
    exact ⟨rfl, _, e1, TPo.refl r, ⟨e1, _, hx⟩, fun a z => by obtain ⟨⟨_, z⟩, _⟩ := z; cases z⟩
  · cases e
end

/-! ### walked by a name -/
def dDict (j : Nat) (kind : List (D × D) → List D) : DI := fun ρ => (dVar j ρ).bind fun x => (x.1.give x.2).bind fun y => match y.1 with
  | .dict kvs => some (kind kvs, y.2)
  | _ => none
def keysD (kvs : List (D × D)) : List D := kvs.map (·.1)
def valsD (kvs : List (D × D)) : List D := kvs.map (·.2)
def itemsD (kvs : List (D × D)) : List D := kvs.map fun p => .tuple [p.1, p.2]
structure KindD (X : Cx) (tg iter : Expr) (j : Nat) (kind : List (D × D) → List D) : Prop where
  ex : ∃ J : Addr → Obj → List (Key × V) → It, PI X tg iter (fun σ H R => ∃ d o ks, σ[j]? = some (some (.ref d)) ∧ H d = some (.frz o (.dK ks)) ∧ R (J d o ks) H) ∧
    ∀ F H d o ks kvs, H d = some (.frz o (.dK ks)) → Dkv X.K F H kvs ks → ItOk X.K F H (J d o ks) (kind kvs)
section
variable {X : Cx} {tg iter : Expr} {j : Nat} {kind : List (D × D) → List D} {x : Str} {pos apos cpos : Pos}
theorem Dkv.at {K : PySem.W.Frag} {F : Rg} {H : Hp} : ∀ {kvs : List (D × D)} {ks : List (Key × V)} {i : Nat} {k : Key} {v : V}, Dkv K F H kvs ks → ks[i]? = some (k, v) → ∃ d, kvs[i]? = some (kD k, d) ∧ Dt K F H d v
  | _, _, _, _, _, .nil, e => by simp at e
  | _, _, 0, _, _, .cons h _, e => by simp at e; obtain ⟨rfl, rfl⟩ := e; exact ⟨_, rfl, h⟩
  | _, _, i + 1, k, v, .cons _ t, e => by
    obtain ⟨d, h1, h2⟩ := Dkv.at (i := i) t (by simpa using e)
    exact ⟨d, by simpa using h1, h2⟩
theorem Dkv.keepsK {K : PySem.W.Frag} {F F' : Rg} {H H' : Hp} {kvs : List (D × D)} {ks : List (Key × V)} (k : Keeps F F' H H') (h : Dkv K F H kvs ks) : Dkv K F' H' kvs ks := h.keeps k
theorem dt_key {K : PySem.W.Frag} {F : Rg} {H : Hp} (k : Key) : Dt K F H (kD k) (kV k) := by
  cases k with
  | inl i => exact .int i
  | inr x => exact .str x
theorem kind_keys (hv : PE X (.Name x pos) (tVar j)) : KindD X tg (.Name x pos) j keysD := by
  refine ⟨Itk, (pi_keys hv).wk fun σ H R h => ?_, fun F H d o ks kvs hd dk => ?_⟩
  · obtain ⟨d, o, ks, h1, h2, h3⟩ := h
    exact ⟨_, h1, d, o, rfl, .inl ⟨ks, h2, h3⟩⟩
  · refine ⟨fun H2 => H2 d = some (.frz o (.dK ks)), fun i H x H' => H' = H ∧ ∃ k v, ks[i]? = some (k, v) ∧ x = kV k, ?_, fun F2 H2 kk => kk.fzt _ _ _ hd, fun i dd F2 H2 x H3 e kk y => ?_⟩
    · have hl : (keysD kvs).length = ks.length := by unfold keysD; rw [List.length_map, dk.length]
      rw [hl]
      exact ⟨fun i H hi q => ⟨q, hi⟩, fun H q => ⟨q, Nat.le_refl _⟩, fun i H x H' _ _ y => y⟩
    · obtain ⟨rfl, k, v, e1, rfl⟩ := y
      obtain ⟨d', e2, _⟩ := dk.at e1
      unfold keysD at e
      rw [List.getElem?_map, e2] at e
      cases e
      exact .val (dt_key k)
theorem kind_vals (hv : PE X (.Name x pos) (tVar j)) (hbase : attributeBase (.Name x pos) "values" X.env (eval (.Name x pos) X.env) = eval (.Name x pos) X.env := by rfl) (hline : (apos.endLine == cpos.line) = true := by rfl) : KindD X tg (.Call (.Attribute (.Name x pos) "values" apos) [] [] cpos) j valsD := by
  refine ⟨Itd, (pi_values hv hbase hline).wk fun σ H R h => ?_, fun F H d o ks kvs hd dk => ?_⟩
  · obtain ⟨d, o, ks, h1, h2, h3⟩ := h
    exact ⟨_, h1, d, o, ks, rfl, h2, h3⟩
  · refine ⟨fun H2 => H2 d = some (.frz o (.dK ks)), fun i H x H' => H' = H ∧ ∃ k, ks[i]? = some (k, x), ?_, fun F2 H2 kk => kk.fzt _ _ _ hd, fun i dd F2 H2 x H3 e kk y => ?_⟩
    · have hl : (valsD kvs).length = ks.length := by unfold valsD; rw [List.length_map, dk.length]
      rw [hl]
      exact ⟨fun i H hi q => ⟨q, hi⟩, fun H q => ⟨q, Nat.le_refl _⟩, fun i H x H' _ _ y => y⟩
    · obtain ⟨rfl, k, e1⟩ := y
      obtain ⟨d', e2, hh⟩ := dk.at e1
      unfold valsD at e
      rw [List.getElem?_map, e2] at e
      cases e
      exact .val (hh.keeps kk)
theorem kind_items {elts : List Expr} {n : Nat} {tpos : Pos} (hv : PE X (.Name x pos) (tVar j)) (hbase : attributeBase (.Name x pos) "items" X.env (eval (.Name x pos) X.env) = eval (.Name x pos) X.env := by rfl) (hline : (apos.endLine == cpos.line) = true := by rfl) : KindD X (.Tuple elts n tpos) (.Call (.Attribute (.Name x pos) "items" apos) [] [] cpos) j itemsD := by
  refine ⟨Iti, (pi_items hv hbase hline).wk fun σ H R h => ?_, fun F H d o ks kvs hd dk => ?_⟩
  · obtain ⟨d, o, ks, h1, h2, h3⟩ := h
    exact ⟨_, h1, d, o, ks, rfl, h2, h3⟩
  · refine ⟨fun H2 => H2 d = some (.frz o (.dK ks)), fun i H x H' => ∃ T k v, ks[i]? = some (k, v) ∧ x = .ref T ∧ H T = none ∧ H' = upd H T (.tup [kV k, v]), ?_, fun F2 H2 kk => kk.fzt _ _ _ hd, fun i dd F2 H2 x H3 e kk y => ?_⟩
    · have hl : (itemsD kvs).length = ks.length := by unfold itemsD; rw [List.length_map, dk.length]
      rw [hl]
      exact ⟨fun i H hi q => ⟨q, hi⟩, fun H q => ⟨q, Nat.le_refl _⟩, fun i H x H' _ _ y => y⟩
    · obtain ⟨T, k, v, e1, rfl, hT, rfl⟩ := y
      obtain ⟨d', e2, hh⟩ := dk.at e1
      unfold itemsD at e
      rw [List.getElem?_map, e2] at e
      cases e
      exact .tup hT (.cons (dt_key k) (.cons (hh.keeps kk) .nil))

/-- the dict at slot j is locked -/
def Zed (j : Nat) (σ : St) (H : Hp) : Prop := ∃ d o ks, σ[j]? = some (some (.ref d)) ∧ H d = some (.frz o (.dK ks))
theorem KindD.pi (W : KindD X tg iter j kind) {g : G} (hg : g.K = X.K) : PI X tg iter (fun σ H R => Zed j σ H ∧ tI g (dDict j kind) σ H R) := by
  obtain ⟨J, h1, h2⟩ := W.ex
  refine h1.wk fun σ H R t => ?_
  obtain ⟨⟨d, o, ks, s1, hd⟩, F, ρ, r, ds, ρ', e0, q⟩ := t
  refine ⟨d, o, ks, s1, hd, ?_⟩
  obtain ⟨⟨w, ρ1⟩, e1, e⟩ := Option.bind_eq_some_iff.mp e0
  obtain ⟨⟨dd, ρ2⟩, e2, e⟩ := Option.bind_eq_some_iff.mp e
  clear e0
  obtain ⟨rfl, v, s2, ep⟩ := var_epo r e1
  simp only at e
  rw [s1] at s2
  cases s2
  obtain ⟨F2, p2, hv⟩ := ep.give e2
  split at e
  · cases e
    cases hv with
    | @dik _ ks2 _ f rr dk =>
      have e3 : ks = ks2 := by
        rcases rr with rr | ⟨o', rr⟩
        · rw [hd] at rr; cases rr
        · rw [hd] at rr; cases rr; rfl
      subst e3
      exact q _ H F2 p2 (hg ▸ h2 F2 H d o _ _ hd (hg ▸ dk))
  · cases e
theorem dDict_idem {ρ ρ1 : En} {ds : List D} (h : dDict j kind ρ = some (ds, ρ1)) : dDict j kind ρ1 = some (ds, ρ1) := by
  obtain ⟨⟨w, ρ0⟩, e1, e⟩ := Option.bind_eq_some_iff.mp h
  obtain ⟨⟨dd, ρ2⟩, e2, e⟩ := Option.bind_eq_some_iff.mp e
  unfold dVar at e1
  split at e1
  · cases e1
    cases e2
    split at e
    · cases e
      exact h
    · cases e
  · rename_i d hd
    cases e1
    simp only [W.give] at e2
    split at e2
    · rename_i d' hd'
      rw [hd] at hd'
      cases hd'
    · split at e2
      · cases e2
      · rename_i d' hd' hc
        rw [hd] at hd'
        cases hd'
        cases e2
        have hj := (List.getElem?_eq_some_iff.mp hd).1
        simp only at e
        split at e
        · cases e
          unfold dDict dVar
          simp only [List.getElem?_set_self hj]
          rfl
        · cases e
    · cases e2
  · cases e1
end
section
variable {X : Cx} {j : Nat} {kind : List (D × D) → List D}
theorem _root_.L2.PE.or {e : Expr} {t1 t2 : TE} (h1 : PE X e t1) (h2 : PE X e t2) : PE X e (fun σ H Q => t1 σ H Q ∨ t2 σ H Q) := ⟨fun pins s σ H Q I h => h.elim (h1.run pins s σ H Q I) (h2.run pins s σ H Q I)⟩
theorem _root_.L2.PS.or {e : Stmt} {t1 t2 : TS} (h1 : PS X e t1) (h2 : PS X e t2) : PS X e (fun D σ H => t1 D σ H ∨ t2 D σ H) := ⟨fun pins s σ H D I h => h.elim (h1.run pins s σ H D I) (h2.run pins s σ H D I)⟩
/-- what the walk's dict is, locked or not -/
theorem dict_there {g : G} {F : Rg} {ρ ρ1 : En} {σ : St} {H : Hp} {ds : List D} (r : Rel g F ρ σ H) (e : dDict j kind ρ = some (ds, ρ1)) :
    ∃ F1 d ks, TPo g F ρ σ H F1 ρ1 H ∧ σ[j]? = some (some (.ref d)) ∧ F1 d ∧ (H d = some (.dK ks) ∨ ∃ o, H d = some (.frz o (.dK ks))) := by
  obtain ⟨⟨w, ρ0⟩, e1, e3⟩ := Option.bind_eq_some_iff.mp e
  obtain ⟨⟨dd, ρ2⟩, e2, e4⟩ := Option.bind_eq_some_iff.mp e3
  clear e e3
  obtain ⟨rfl, v, s2, ep⟩ := var_epo r e1
  simp only at e4
  obtain ⟨F2, p2, hv⟩ := ep.give e2
  split at e4
  · cases e4
    cases hv with
    | dik f rr dk => exact ⟨F2, _, _, p2, s2, f, rr⟩
  · cases e4
theorem ped_locked {e : Expr} {f : DE} (hp : ∀ g : G, g.K = X.K → PE X e (fun σ H Q => Zed j σ H ∧ tE g f σ H Q)) (hf : ∀ ρ x, f ρ = some x → ∃ ds ρ1, dDict j kind ρ = some (ds, ρ1) ∧ f ρ1 = some x) : PED X e f := fun g hg => by
  have uni : PE X e (fun σ H Q => ∃ g' : G, g'.K = X.K ∧ Zed j σ H ∧ tE g' f σ H Q) := ⟨fun pins s σ H Q I ⟨g', hg', h⟩ => (hp g' hg').run pins s σ H Q I h⟩
  refine ((pe_lock uni).or (hp g hg)).wk fun σ H Q t => ?_
  obtain ⟨F, ρ, r, w, ρ', e0, q⟩ := t
  obtain ⟨ds, ρ1, e1, e2⟩ := hf ρ _ e0
  obtain ⟨F1, d, ks, p, s1, fd, hd⟩ := dict_there r e1
  have r1 := p.post.rel
  rcases hd with hd | ⟨o, hd⟩
  · refine .inl ⟨d, _, hd, trivial, fun od => ⟨lockG g d (.frz od (.dK ks)), hg, ⟨d, od, ks, s1, upd_same⟩, F1, ρ1, r1.lock fd hd, w, ρ', e2, fun v H' F' p' => ⟨p'.t.post.locked r1 fd hd, ?_⟩⟩⟩
    exact q v _ F' (EPo.then r p (p'.unlock r1 fd hd))
  · exact .inr ⟨⟨d, o, ks, s1, hd⟩, F1, ρ1, r1, w, ρ', e2, fun v H' F' p' => q v H' F' (EPo.then r p p')⟩
theorem psd_locked {st : Stmt} {f : DS} (hp : ∀ g : G, g.K = X.K → PS X st (fun E σ H => Zed j σ H ∧ tS g f E σ H)) (hf : ∀ ρ x, f ρ = some x → ∃ ds ρ1, dDict j kind ρ = some (ds, ρ1) ∧ f ρ1 = some x) : PSD X st f := fun g hg => by
  have uni : PS X st (fun E σ H => ∃ g' : G, g'.K = X.K ∧ Zed j σ H ∧ tS g' f E σ H) := ⟨fun pins s σ H E I ⟨g', hg', h⟩ => (hp g' hg').run pins s σ H E I h⟩
  refine ((ps_lock uni).or (hp g hg)).wk fun E σ H t => ?_
  obtain ⟨F, ρ, r, fl, e0, q⟩ := t
  obtain ⟨ds, ρ1, e1, e2⟩ := hf ρ _ e0
  obtain ⟨F1, d, ks, p, s1, fd, hd⟩ := dict_there r e1
  have r1 := p.post.rel
  have q1 := q.from r p.post
  rcases hd with hd | ⟨o, hd⟩
  · refine .inl ⟨d, _, hd, trivial, fun od => ⟨lockG g d (.frz od (.dK ks)), hg, ⟨d, od, ks, s1, upd_same⟩, F1, ρ1, r1.lock fd hd, fl, e2, ?_⟩⟩
    cases fl with
    | nx ρ5 => exact fun σ5 H5 F5 p5 => ⟨p5.locked r1 fd hd, q1 σ5 _ F5 (p5.unlock r1 fd hd)⟩
    | bk ρ5 => exact fun σ5 H5 F5 p5 => ⟨p5.locked r1 fd hd, q1 σ5 _ F5 (p5.unlock r1 fd hd)⟩
    | ct ρ5 => exact fun σ5 H5 F5 p5 => ⟨p5.locked r1 fd hd, q1 σ5 _ F5 (p5.unlock r1 fd hd)⟩
    | rt w ρ5 => exact fun v σ5 H5 F5 p5 rw5 => ⟨p5.locked r1 fd hd, q1 v σ5 _ F5 (p5.unlock r1 fd hd) (rw5.unlock (p5.mono d fd) (p5.locked r1 fd hd))⟩
  · exact .inr ⟨⟨d, o, ks, s1, hd⟩, F1, ρ1, r1, fl, e2, q1⟩
theorem dFor_idem {kind : List (D × D) → List D} {j : Nat} {tg : DG} {body : DS} {vs : List Nat} : ∀ ρ x, dFor (dDict j kind) tg body vs ρ = some x → ∃ ds ρ1, dDict j kind ρ = some (ds, ρ1) ∧ dFor (dDict j kind) tg body vs ρ1 = some x := fun ρ x h => by
  obtain ⟨⟨ds, ρ1⟩, e1, e⟩ := Option.bind_eq_some_iff.mp h
  exact ⟨ds, ρ1, e1, Option.bind_eq_some_iff.mpr ⟨_, dDict_idem e1, e⟩⟩
theorem dLc_idem {kind : List (D × D) → List D} {j : Nat} {tg : DG} {ft : DT} {fe : DE} {vs : List Nat} : ∀ ρ x, dLc (dDict j kind) tg ft fe vs ρ = some x → ∃ ds ρ1, dDict j kind ρ = some (ds, ρ1) ∧ dLc (dDict j kind) tg ft fe vs ρ1 = some x := fun ρ x h => by
  obtain ⟨⟨ds, ρ1⟩, e1, e⟩ := Option.bind_eq_some_iff.mp h
  exact ⟨ds, ρ1, e1, Option.bind_eq_some_iff.mpr ⟨_, dDict_idem e1, e⟩⟩
theorem dSet_idem {kind : List (D × D) → List D} {i j : Nat} {f : DE} (hf : ∀ ρ x, f ρ = some x → ∃ ds ρ1, dDict j kind ρ = some (ds, ρ1) ∧ f ρ1 = some x) : ∀ ρ x, dSet i f ρ = some x → ∃ ds ρ1, dDict j kind ρ = some (ds, ρ1) ∧ dSet i f ρ1 = some x := fun ρ x h => by
  obtain ⟨y, e1, e⟩ := Option.bind_eq_some_iff.mp h
  obtain ⟨ds, ρ1, h1, h2⟩ := hf ρ y e1
  exact ⟨ds, ρ1, h1, Option.bind_eq_some_iff.mpr ⟨_, h2, e⟩⟩
end
section
variable {X : Cx} {pos : Pos} {tg iter : Expr} {body : List Stmt} {ft : DG} {fb : DS} {is vs : List Nat} {j : Nat} {kind : List (D × D) → List D}
theorem psd_forD (hp : PassesOwn (model X.prog X.w) X.A X.env X.xe) (hc : X.calm = true) (hi : KindD X tg iter j kind) (hg' : PGD X tg ft is) (hb : PSsD X body fb) (vs : List Nat)
    (hs : ∀ x, foldedSetIterable iter X.env x = pure x := by intro _; rfl) : PSD X (.For tg iter body [] pos) (dFor (dDict j kind) ft fb vs) :=
  psd_locked (j := j) (kind := kind) (fun g hg => (ps_for hp hc (hi.pi hg) (hg' g hg) (hb g hg) hs).wk fun E σ H t => ⟨t.1, for_ok (vs := vs) t.2⟩) dFor_idem
end
section
variable {X : Cx} {tg iter elt : Expr} {ifs : List Expr} {scope : Scope} {pos : Pos} {own : List (Str × Nat)} {j : Nat} {kind : List (D × D) → List D} {fg : DG} {ft : DT} {fe : DE} {is : List Nat}
theorem ped_lcD (hc : X.calm = true) (hN : X.N.Nodup) (hi : KindD X tg iter j kind) (ok : BlkOk X.N X.env.scope scope own)
    (hg' : ∀ (s : Shared) (H : Hp) (C : Addr) (cl : List (Str × Addr)) (fp : List Addr), PGD (X.blk s H scope (compEnvC scope cl C X.env) fp) tg fg is) (ht : ∀ (s : Shared) (H : Hp) (C : Addr) (cl : List (Str × Addr)) (fp : List Addr), PTsD (X.blk s H scope (compEnvC scope cl C X.env) fp) ifs ft)
    (he : ∀ (s : Shared) (H : Hp) (C : Addr) (cl : List (Str × Addr)) (fp : List Addr), PED (X.blk s H scope (compEnvC scope cl C X.env) fp) elt fe) (hsub : ∀ i ∈ is, i ∈ own.map (·.2) := by decide) (hs : ∀ x, foldedSetIterable iter X.env x = pure x := by intro _; rfl) :
    PED X (.ListComp elt [⟨tg, iter, ifs, 0⟩] scope pos) (dLc (dDict j kind) fg ft fe (own.map (·.2))) :=
  ped_locked (j := j) (kind := kind) (fun g hg => (pe_lc hc hN (hi.pi hg) ok (fun s H C cl fp => hg' s H C cl fp g hg) (fun s H C cl fp => ht s H C cl fp g hg) (fun s H C cl fp => he s H C cl fp g hg) hs).wk fun σ H Q t => ⟨t.1, lc_ok hsub t.2⟩) dLc_idem
theorem psd_setLcD {i : Nat} {y : Str} {py spos : Pos} (hc : X.calm = true) (hN : X.N.Nodup) (hy : X.N[i]? = some y) (hyl : X.env.scope.names.lookup y = some .local) (hsw : swapsWith (.ListComp elt [⟨tg, iter, ifs, 0⟩] scope pos) (some (.Name y py)) spos.line X.env = pure true)
    (hi : KindD X tg iter j kind) (ok : BlkOk X.N X.env.scope scope own)
    (hg' : ∀ (s : Shared) (H : Hp) (C : Addr) (cl : List (Str × Addr)) (fp : List Addr), PGD (X.blk s H scope (compEnvC scope cl C X.env) fp) tg fg is) (ht : ∀ (s : Shared) (H : Hp) (C : Addr) (cl : List (Str × Addr)) (fp : List Addr), PTsD (X.blk s H scope (compEnvC scope cl C X.env) fp) ifs ft)
    (he : ∀ (s : Shared) (H : Hp) (C : Addr) (cl : List (Str × Addr)) (fp : List Addr), PED (X.blk s H scope (compEnvC scope cl C X.env) fp) elt fe) (hsub : ∀ i ∈ is, i ∈ own.map (·.2) := by decide) (hs : ∀ x, foldedSetIterable iter X.env x = pure x := by intro _; rfl) :
    PSD X (.Assign [.Name y py] (.ListComp elt [⟨tg, iter, ifs, 0⟩] scope pos) spos) (dSet i (dLc (dDict j kind) fg ft fe (own.map (·.2)))) :=
  psd_locked (j := j) (kind := kind) (fun g hg => (ps_setLc hc hN hy hyl hsw (hi.pi hg) ok (fun s H C cl fp => hg' s H C cl fp g hg) (fun s H C cl fp => ht s H C cl fp g hg) (fun s H C cl fp => he s H C cl fp g hg) hs).wk fun E σ H t =>
    ⟨t.1, lc_ok (own := own) hsub (set_ok t.2)⟩) (dSet_idem dLc_idem)
end
end PD
set_option Elab.async false
set_option linter.all false
set_option maxRecDepth 100000
set_option maxHeartbeats 4000000
/-! PD16: small things that the printed walks lean on. -/
namespace PD
set_option autoImplicit false
open PySem PySem.Spec L2
open PyProof.Rows hiding St
section
variable {X : Cx} {x : Str} {pos : Pos}
theorem pgn (nd : X.N.Nodup) (i : Nat) (hi : X.N[i]? = some x := by rfl) (hx : L2.Loc X.env.scope x := by first | exact .inl rfl | exact .inr rfl) (hf : X.fn x = true ∨ X.env.scope.names.lookup x = some .local := by first | exact .inl rfl | exact .inr rfl) : PG X (.Name x pos) (gName i) := pg_name nd hi hx hf
def bStr : D → Option W
  | .str x => some (.sh (.str x))
  | _ => none
theorem b1_str : B1 X (.type "str") bStr := by
  refine ⟨_, SkE.call_str_str, fun F H a va w Q ha e q => ?_⟩
  unfold bStr at e
  split at e
  · cases e
    cases ha.str_inv
    exact ⟨_, rfl, q _ _ (.val (.str _))⟩
  · cases e
end
section
variable {P : Program} {w : World} {K : PySem.W.Frag} {mg : Str → Option Value} {base : Heap} {k : Nat} {f : Addr} {fd : FuncData} {ps : List Str}
theorem fn_never {sem : FS} (h : ∀ ds x, sem ds = some x → False) : FnOk P w K mg base CX0 k f fd ps (spD K sem) :=
  ⟨fun vs H Q E ⟨_, _, _, _, _, _, e, _⟩ => (h _ _ e).elim, fun A outer s H args us vs Q E _ _ _ _ ⟨_, _, _, _, _, _, e, _⟩ => (h _ _ e).elim⟩
end
end PD
set_option Elab.async false
set_option linter.all false
set_option maxRecDepth 100000
set_option maxHeartbeats 4000000
/-! PD17: the two heads that every one of these laws has: _law_cup, law. -/
namespace PD
set_option autoImplicit false
open PySem PySem.Spec L2
open PyProof.Rows hiding St
section
variable {X : Cx} {s0 : Stmt} {ss : List Stmt} {te : TE} {i : Nat} {fb : DS}
/-- a statement of the layer below, then statements over data -/
theorem first_then (h0 : PS X s0 (tAsg te (gName i))) (h : PSsD X ss fb) : PSs X (s0 :: ss) (fun D σ H => te σ H fun v H1 => ∃ g : G, g.K = X.K ∧ tS g fb D (σ.set i (some v)) H1) := by
  have uni : PSs X ss (fun D σ H => ∃ g : G, g.K = X.K ∧ tS g fb D σ H) := ⟨fun pins s σ H D I ⟨g, hg, q⟩ => (h g hg).run pins s σ H D I q⟩
  exact (pss_cons h0 uni).wk fun D σ H t => t
/-- nothing is known but one slot -/
def G0 (K : PySem.W.Frag) : G := ⟨K, fun _ => none, fun _ => False, none⟩
def En.only (n i : Nat) (s : Sl) : En := ⟨false, (List.replicate n none).set i (some s)⟩
theorem only_at {n i j : Nat} {s t : Sl} (h : ((List.replicate n (none : Option Sl)).set i (some s))[j]? = some (some t)) : i = j ∧ s = t := by
  rcases set_at h with ⟨e, q, _⟩ | ⟨_, q⟩
  · cases q; exact ⟨e, rfl⟩
  · rw [List.getElem?_replicate] at q
    split at q <;> cases q
theorem rel_onlySh {K : PySem.W.Frag} {n i : Nat} {d : D} {v : V} {σ : St} {H : Hp} (hl : σ.length = n) (hi : i < n) (hd : Dt K (fun _ => False) H d v) : Rel (G0 K) (fun _ => False) (En.only n i (.sh d)) (σ.set i (some v)) H where
  len := by show ((List.replicate n none).set i _).length = _; rw [List.length_set, List.length_replicate, List.length_set, hl]
  sh := fun j d' e => by
    obtain ⟨rfl, q⟩ := only_at e
    cases q
    exact ⟨v, List.getElem?_set_self (by omega), hd⟩
  own := fun j d' e => by obtain ⟨_, q⟩ := only_at e; cases q
  dist := fun j k d1 d2 a e => by obtain ⟨_, q⟩ := only_at e; cases q
  cupT := fun h => by cases h
  cupF := fun _ => rfl
  F0 := fun _ h => h
  Fn := fun _ h => h.elim
  Fs := fun _ h => h.elim
  base := fun _ _ h => by cases h
theorem rel_onlyOwn {K : PySem.W.Frag} {n i : Nat} {d : D} {a : Addr} {σ : St} {H : Hp} (hl : σ.length = n) (hi : i < n) (hd : Mo K (fun _ => False) H d a) : Rel (G0 K) (fun _ => False) (En.only n i (.own d)) (σ.set i (some (.ref a))) H where
  len := by show ((List.replicate n none).set i _).length = _; rw [List.length_set, List.length_replicate, List.length_set, hl]
  sh := fun j d' e => by obtain ⟨_, q⟩ := only_at e; cases q
  own := fun j d' e => by
    obtain ⟨rfl, q⟩ := only_at e
    cases q
    exact ⟨a, List.getElem?_set_self (by omega), hd, fun h => h, .inl rfl⟩
  dist := fun j k d1 d2 b e1 e2 _ _ => by
    obtain ⟨q1, _⟩ := only_at e1
    obtain ⟨q2, _⟩ := only_at e2
    omega
  cupT := fun h => by cases h
  cupF := fun _ => rfl
  F0 := fun _ h => h
  Fn := fun _ h => h.elim
  Fs := fun _ h => h.elim
  base := fun _ _ h => by cases h
end

/-! ### the cup -/
def spCup (K : PySem.W.Frag) : Sp := fun vs H Q _ => ∃ (a : Addr) (ns : List Int), vs = [.ref a] ∧ SqL K H a (ns.map V.int) ∧ ns.length ≤ 63 ∧ ∀ (p : Addr) (x y : Int) (H' : Hp), 0 ≤ x → 0 ≤ y → y < 10000000000 → H' p = some (.lst [.int x, .int y]) → Q (.ref p) H'
def tFirst (K : PySem.W.Frag) : TE := fun σ H Q => ∃ (a : Addr) (ns : List Int), σ[0]? = some (some (.ref a)) ∧ SqL K H a (ns.map V.int) ∧ ns.length ≤ 63 ∧ ∀ (c : Int) (H' : Hp), 0 ≤ c → Q (.int c) H'
section
variable {X : Cx} {p1 p2 p3 p4 p5 p6 p7 p8 p9 p10 p11 p12 : Pos} {j1 j2 : Nat}
theorem head_int {ns : List Int} : ∃ c, L2.atI (ns.map V.int ++ [V.int 0]) 0 = some (.int c) := by
  cases ns with
  | nil => exact ⟨0, rfl⟩
  | cons n ns => exact ⟨n, atI_nat (j := 0) rfl⟩
theorem pe_first (ga : Gl X "abs") (gl : Gl X "list") (ma : X.mg "abs" = none) (ml : X.mg "list" = none) (hv : PE X (.Name "script" p4) (tVar 0))
    (h1 : starEach [Expr.Subscript (.BinOp (.Call (.Name "list" p3) [.Name "script" p4] [] p5) .Add (.List [.Constant (.int 0) j1 p6] p7) p8) (.Constant (.int 0) j2 p9) p10] X.env = (false, eval (.Subscript (.BinOp (.Call (.Name "list" p3) [.Name "script" p4] [] p5) .Add (.List [.Constant (.int 0) j1 p6] p7) p8) (.Constant (.int 0) j2 p9) p10) X.env) :: starEach [] X.env := by rfl)
    (h2 : starEach [Expr.Name "script" p4] X.env = (false, eval (.Name "script" p4) X.env) :: starEach [] X.env := by rfl) (h3 : starEach [Expr.Constant (.int 0) j1 p6] X.env = (false, eval (.Constant (.int 0) j1 p6) X.env) :: starEach [] X.env := by rfl) :
    PE X (.Call (.Name "abs" p2) [.Subscript (.BinOp (.Call (.Name "list" p3) [.Name "script" p4] [] p5) .Add (.List [.Constant (.int 0) j1 p6] p7) p8) (.Constant (.int 0) j2 p9) p10] [] p11) (tFirst X.K) := by
  refine (pe_callB call_abs ga ma (by decide +kernel) (pa_cons (pe_ix ix_list (pe_op op_cat (pe_callTy call_list_of gl ml (by decide +kernel) (pa_cons hv pa_nil h2) (by decide) (by decide) h2) (pe_lst (pa_cons pe_int pa_nil h3))) pe_int fun _ _ => rfl) pa_nil h1) (by decide) (by decide) h1).wk fun σ H Q t => ?_
  obtain ⟨a, ns, s0, hS, hl, q⟩ := t
  refine ⟨.ref a, s0, a, ns.map V.int, rfl, .inl hS, fun l hn => ⟨(by decide : 1 ≤ sizeLine), fun m hm => ?_⟩⟩
  have ne : l ≠ m := fun z => by
    subst z
    rw [upd_same] at hm
    cases hm
  have hs := sizeLine_eq
  refine ⟨l, m, ns.map V.int, [.int 0], rfl, rfl, by rw [upd_ne ne]; exact upd_same, upd_same, by rw [List.length_map, List.length_singleton]; omega, fun r hr => ?_⟩
  obtain ⟨c, hc⟩ := head_int (ns := ns)
  refine ⟨r, _, 0, _, rfl, rfl, .inl (.inl upd_same), hc, c, rfl, q _ _ ?_⟩
  split <;> omega
end

section
variable {P : Program} {w : World} {K : PySem.W.Frag} {mg : Str → Option Value} {base : Heap} {k : Nat} {f : Addr} {fd : FuncData} {st : Stmt} {x qual : Str} {N : List Str}
theorem cup_fn (Fx : Fun K x qual st f fd) (S : FnScope N ["script"] (defScope st)) (hN : N.length = 2) (fb : DS) (s0 : Stmt) (ss : List Stmt) (hst : defBody st = s0 :: ss)
    (hbody : ∀ (cdv : Value) (A : Around) (outer : List Env) (s : Shared) (H : Hp) (E : XK), Room k (A.deeper (envOfC qual (defScope st) s.heap.objs.size f cdv)) →
      PS (cxOf CX0 P w K mg base N qual (defScope st) f cdv A outer s H E).nox s0 (tAsg (tFirst K) (gName 1)) ∧ PSsD (cxOf CX0 P w K mg base N qual (defScope st) f cdv A outer s H E).nox ss fb)
    (hsem : ∀ c : Int, 0 ≤ c → ∃ x y ρ', fb (En.only 2 1 (.sh (.int c))) = some (.rt (.fr (.list [.int x, .int y])) ρ') ∧ 0 ≤ x ∧ 0 ≤ y ∧ y < 10000000000) : FnOk P w K mg base CX0 (k + 1) f fd ["script"] (spCup K) := by
  refine Fx.ok S (fun vs H Q E h => ?_) (fun cdv A outer s H vs Q E hr h => ?_)
  · obtain ⟨a, ns, rfl, _⟩ := h
    rfl
  · obtain ⟨a, ns, rfl, hS, hl, q⟩ := h
    obtain ⟨b1, b2⟩ := hbody cdv A outer s H E hr
    rw [hst]
    refine ⟨_, first_then b1 b2, a, ns, ?_, hS, hl, fun c H' hc => ?_⟩
    · rfl
    · obtain ⟨y1, y2, ρ', e, h1, h2, h3⟩ := hsem c hc
      have hlen : (L2.start N [V.ref a]).length = 2 := by
        unfold L2.start
        rw [hN]
        rfl
      refine ⟨G0 K, rfl, fun _ => False, En.only 2 1 (.sh (.int c)), rel_onlySh hlen (by decide) (.int c), _, e, fun v σ' H' F' p rw => ?_⟩
      obtain ⟨b, rfl, mo, _⟩ := rw
      obtain ⟨xs, e1, e2⟩ := mo.lst_inv
      have e3 : xs = [.int y1, .int y2] := Dts.ints (ns := [y1, y2]) e2
      subst e3
      exact q b y1 y2 H' h1 h2 h3 e1
def spLaw (K : PySem.W.Frag) : Sp := fun vs H Q _ => ∃ (a : Addr) (ns : List Int), vs = [.ref a] ∧ SqL K H a (ns.map V.int) ∧ ns.length ≤ 63 ∧ ∀ H', Q (.bl true) H'
/-- cup = _law_cup(script), at the law's beginning -/
theorem law_fn (Fx : Fun K x qual st f fd) (S : FnScope N ["script"] (defScope st)) (n : Nat) (hN : N.length = n + 2) (fb : DS) (s0 : Stmt) (ss : List Stmt) (hst : defBody st = s0 :: ss)
    (hbody : ∀ (cdv : Value) (A : Around) (outer : List Env) (s : Shared) (H : Hp) (E : XK), Room k (A.deeper (envOfC qual (defScope st) s.heap.objs.size f cdv)) →
      PS (cxOf CX0 P w K mg base N qual (defScope st) f cdv A outer s H E).nox s0 (tAsg (tCall (spCup K) [] E0 (tCons (tVar 0) tNil)) (gName 1)) ∧ PSsD (cxOf CX0 P w K mg base N qual (defScope st) f cdv A outer s H E).nox ss fb)
    (hsem : ∀ x y : Int, 0 ≤ x → 0 ≤ y → y < 10000000000 → ∃ ρ', fb (En.only (n + 2) 1 (.own (.list [.int x, .int y]))) = some (.rt (.sh (.bool true)) ρ')) : FnOk P w K mg base CX0 (k + 1) f fd ["script"] (spLaw K) := by
  refine Fx.ok S (fun vs H Q E h => ?_) (fun cdv A outer s H vs Q E hr h => ?_)
  · obtain ⟨a, ns, rfl, _⟩ := h
    rfl
  · obtain ⟨a, ns, rfl, hS, hl, q⟩ := h
    obtain ⟨b1, b2⟩ := hbody cdv A outer s H E hr
    rw [hst]
    refine ⟨_, first_then b1 b2, .ref a, ?_, a, ns, rfl, hS, hl, fun p x y H' hx hy hy2 hp => ?_⟩
    · rfl
    · obtain ⟨ρ', e⟩ := hsem x y hx hy hy2
      have hlen : (L2.start N [V.ref a]).length = n + 2 := by
        unfold L2.start
        rw [hN, List.length_append, List.length_replicate, List.length_map, List.length_singleton]
        omega
      refine ⟨G0 K, rfl, fun _ => False, En.only (n + 2) 1 (.own (.list [.int x, .int y])), rel_onlyOwn hlen (by omega) (.inl ⟨_, _, rfl, hp, .cons (.int x) (.cons (.int y) .nil)⟩), _, e, fun v σ' H' F' p rw => ?_⟩
      cases sh_inv rw
      exact q H'
end
end PD
set_option Elab.async false
set_option linter.all false
set_option maxRecDepth 100000
set_option maxHeartbeats 4000000
/-! PD18: what a walk over data comes to: the plain laws of the combinators. -/
namespace PD
set_option autoImplicit false
open PySem PySem.Spec L2
open PyProof.Rows hiding St

def isInt : D → Bool | .int _ => true | .bool _ => true | _ => false
def isBool : D → Bool | .bool _ => true | _ => false
def isTup : D → Bool | .tuple _ => true | _ => false
def isLst : D → Bool | .list _ => true | _ => false
def isStr : D → Bool | .str _ => true | _ => false
def isDic : D → Bool | .dict _ => true | _ => false
theorem isi_int (d : D) : bIsi "int" d = some (.sh (.bool (isInt d))) := by cases d <;> (show some (W.sh (.bool (isiB _ _))) = _) <;> simp only [tyD] <;> exact congrArg (fun b => some (W.sh (PyData.bool b))) (by first | (show _ = true; decide) | (show _ = false; decide))
theorem isi_bool (d : D) : bIsi "bool" d = some (.sh (.bool (isBool d))) := by cases d <;> (show some (W.sh (.bool (isiB _ _))) = _) <;> simp only [tyD] <;> exact congrArg (fun b => some (W.sh (PyData.bool b))) (by first | (show _ = true; decide) | (show _ = false; decide))
theorem isi_tuple (d : D) : bIsi "tuple" d = some (.sh (.bool (isTup d))) := by cases d <;> (show some (W.sh (.bool (isiB _ _))) = _) <;> simp only [tyD] <;> exact congrArg (fun b => some (W.sh (PyData.bool b))) (by first | (show _ = true; decide) | (show _ = false; decide))
theorem isi_list (d : D) : bIsi "list" d = some (.sh (.bool (isLst d))) := by cases d <;> (show some (W.sh (.bool (isiB _ _))) = _) <;> simp only [tyD] <;> exact congrArg (fun b => some (W.sh (PyData.bool b))) (by first | (show _ = true; decide) | (show _ = false; decide))
theorem isi_str (d : D) : bIsi "str" d = some (.sh (.bool (isStr d))) := by cases d <;> (show some (W.sh (.bool (isiB _ _))) = _) <;> simp only [tyD] <;> exact congrArg (fun b => some (W.sh (PyData.bool b))) (by first | (show _ = true; decide) | (show _ = false; decide))
theorem isi_dict (d : D) : bIsi "dict" d = some (.sh (.bool (isDic d))) := by cases d <;> (show some (W.sh (.bool (isiB _ _))) = _) <;> simp only [tyD] <;> exact congrArg (fun b => some (W.sh (PyData.bool b))) (by first | (show _ = true; decide) | (show _ = false; decide))

theorem get_sh (d : D) (ρ : En) : W.get ρ (.sh d) = some d := rfl
theorem get_fr (d : D) (ρ : En) : W.get ρ (.fr d) = some d := rfl
theorem get_vr (i : Nat) (ρ : En) : W.get ρ (.vr i) = ρ.at i := rfl
theorem give_vr (i : Nat) (ρ : En) : W.give ρ (.vr i) = match ρ.sl[i]? with
    | some (some (.sh d)) => some (d, ρ)
    | some (some (.own d)) => if ρ.cup = true ∧ i = 0 then none else some (d, { ρ with sl := ρ.sl.set i (some (.sh d)) })
    | _ => none := rfl
theorem give_sh (d : D) (ρ : En) : W.give ρ (.sh d) = some (d, ρ) := rfl
theorem give_fr (d : D) (ρ : En) : W.give ρ (.fr d) = some (d, ρ) := rfl
theorem tru_none : dTru .none = some false := rfl
theorem tru_bool (b : Bool) : dTru (.bool b) = some b := rfl
theorem tru_int (i : Int) : dTru (.int i) = some (i != 0) := rfl
theorem tru_list (xs : List D) : dTru (.list xs) = some (!xs.isEmpty) := rfl
theorem tru_tup (xs : List D) : dTru (.tuple xs) = some (!xs.isEmpty) := rfl
theorem len_list (xs : List D) : bLen (.list xs) = some (.sh (.int xs.length)) := rfl
theorem len_tup (xs : List D) : bLen (.tuple xs) = some (.sh (.int xs.length)) := rfl
theorem len_dict (xs : List (D × D)) : bLen (.dict xs) = some (.sh (.int xs.length)) := rfl
theorem add_int (i j : Int) : bAdd (.int i) (.int j) = some (.sh (.int (i + j))) := rfl
theorem sub_int (i j : Int) : bSub (.int i) (.int j) = some (.sh (.int (i - j))) := rfl
theorem mul_int {i j : Int} (h : (-18446744073709551616 < i ∧ i < 18446744073709551616) ∨ (-18446744073709551616 < j ∧ j < 18446744073709551616)) : bMul (.int i) (.int j) = some (.sh (.int (i * j))) := if_pos h
theorem div_int {i j : Int} (h : 0 < j ∧ j < 1073741824) : bDiv (.int i) (.int j) = some (.sh (.int (i / j))) := if_pos h
theorem mod_int {i j : Int} (h : 0 < j) : bMod (.int i) (.int j) = some (.sh (.int (i % j))) := if_pos h
theorem mul_list {xs : List D} {k : Int} (h : 0 ≤ k ∧ k ≤ 1000 ∧ xs.length ≤ 1000) : bMul (.list xs) (.int k) = some (.fr (.list (List.replicate k.toNat xs).flatten)) := if_pos h
theorem mul_tup {xs : List D} {k : Int} (h : 1 ≤ k ∧ k ≤ 1000 ∧ xs.length ≤ 1000 ∧ xs ≠ []) : bMul (.tuple xs) (.int k) = some (.sh (.tuple (List.replicate k.toNat xs).flatten)) := if_pos h
theorem flat_one {α : Type} (x : α) : ∀ n : Nat, (List.replicate n [x]).flatten = List.replicate n x
  | 0 => rfl
  | n + 1 => by rw [List.replicate_succ, List.flatten_cons, flat_one x n]; rfl
theorem add_list {xs ys : List D} (h : xs.length + ys.length ≤ 16777216) : bAdd (.list xs) (.list ys) = some (.fr (.list (xs ++ ys))) := if_pos h
theorem int_int (i : Int) : bInt (.int i) = some (.sh (.int i)) := rfl
theorem abs_int (i : Int) : bAbs (.int i) = some (.sh (.int (if i < 0 then -i else i))) := rfl
theorem le_int (i j : Int) : cLe (.int i) (.int j) = some (decide (i ≤ j)) := rfl
theorem lt_int (i j : Int) : cLt (.int i) (.int j) = some (decide (i < j)) := rfl
theorem gt_int (i j : Int) : cGt (.int i) (.int j) = some (decide (j < i)) := rfl
theorem ge_int (i j : Int) : cGe (.int i) (.int j) = some (decide (j ≤ i)) := rfl
theorem shaped_int (i : Int) : SeqAt.shaped (.int i) = true := by
  show ((PyData.int i).canLay0 && decide ((PyData.int i).depth ≤ 64)) = true
  simp [PyData.canLay0, PyData.depth]
theorem eq_int (i j : Int) : cEq (.int i) (.int j) = some (decide (i = j)) := by
  unfold cEq
  rw [if_pos ⟨shaped_int i, shaped_int j⟩]
  show some (i == j) = _
  congr 1
theorem ne_int (i j : Int) : cNe (.int i) (.int j) = some (!decide (i = j)) := by
  unfold cNe
  rw [if_pos ⟨shaped_int i, shaped_int j⟩]
  show some (!(i == j)) = _
  congr 1
theorem shaped_bool (b : Bool) : SeqAt.shaped (.bool b) = true := by
  show ((PyData.bool b).canLay0 && decide ((PyData.bool b).depth ≤ 64)) = true
  simp [PyData.canLay0, PyData.depth]
theorem shaped_nil : SeqAt.shaped (.list []) = true := by
  show ((PyData.list []).canLay0 && decide ((PyData.list []).depth ≤ 64)) = true
  simp [PyData.canLay0, PyData.canLayAll0, PyData.depth, PyData.depthAll]
theorem ne_bool (a b : Bool) : cNe (.bool a) (.bool b) = some (!decide (a = b)) := by
  unfold cNe
  rw [if_pos ⟨shaped_bool a, shaped_bool b⟩]
  cases a <;> cases b <;> rfl
theorem eq_bool (a b : Bool) : cEq (.bool a) (.bool b) = some (decide (a = b)) := by
  unfold cEq
  rw [if_pos ⟨shaped_bool a, shaped_bool b⟩]
  cases a <;> cases b <;> rfl
theorem eq_nil : cEq (.list []) (.list []) = some true := by
  unfold cEq
  rw [if_pos ⟨shaped_nil, shaped_nil⟩]
  rfl
theorem ix_list {xs : List D} {i : Int} {d : D} (h : L2.atI xs i = some d) : bIx (.list xs) (.int i) = some (.sh d) := by
  show (L2.atI xs i).map W.sh = _
  rw [h]; rfl
theorem ix_tup {xs : List D} {i : Int} {d : D} (h : L2.atI xs i = some d) : bIx (.tuple xs) (.int i) = some (.sh d) := by
  show (L2.atI xs i).map W.sh = _
  rw [h]; rfl
theorem ix_listN {xs : List D} {i : Nat} {d : D} (h : xs[i]? = some d) : bIx (.list xs) (.int (i : Int)) = some (.sh d) := ix_list (atI_nat h)
theorem ix_tupN {xs : List D} {i : Nat} {d : D} (h : xs[i]? = some d) : bIx (.tuple xs) (.int (i : Int)) = some (.sh d) := ix_tup (atI_nat h)
theorem ix_tup0 (x : D) (xs : List D) : bIx (.tuple (x :: xs)) (.int 0) = some (.sh x) := ix_tup (atI_nat (j := 0) rfl)
theorem ix_tup1 (x y : D) (xs : List D) : bIx (.tuple (x :: y :: xs)) (.int 1) = some (.sh y) := ix_tup (atI_nat (j := 1) rfl)
theorem ix_tup2 (x y z : D) (xs : List D) : bIx (.tuple (x :: y :: z :: xs)) (.int 2) = some (.sh z) := ix_tup (atI_nat (j := 2) rfl)
theorem ix_tup3 (x y z u : D) (xs : List D) : bIx (.tuple (x :: y :: z :: u :: xs)) (.int 3) = some (.sh u) := ix_tup (atI_nat (j := 3) rfl)
theorem ix_list0 (x : D) (xs : List D) : bIx (.list (x :: xs)) (.int 0) = some (.sh x) := ix_list (atI_nat (j := 0) rfl)
theorem ix_list1 (x y : D) (xs : List D) : bIx (.list (x :: y :: xs)) (.int 1) = some (.sh y) := ix_list (atI_nat (j := 1) rfl)
theorem atI_back {α : Type} (xs : List α) (x : α) : L2.atI (xs ++ [x]) (-1) = some x := atI_last xs x
theorem neg_int (i : Int) (ρ : En) (fa : DE) (ρ1 : En) (h : fa ρ = some (.sh (.int i), ρ1)) : dNeg fa ρ = some (.sh (.int (-i)), ρ1) := by unfold dNeg; rw [h]; rfl
theorem tup_list (xs : List D) : bTuple (.list xs) = some (.sh (.tuple xs)) := rfl
theorem tup_tup (xs : List D) : bTuple (.tuple xs) = some (.sh (.tuple xs)) := rfl
theorem lst_list (xs : List D) : bList (.list xs) = some (.fr (.list xs)) := rfl
theorem lst_tup (xs : List D) : bList (.tuple xs) = some (.fr (.list xs)) := rfl
theorem tyD_list (xs : List D) : tyD (.list xs) = "list" := rfl
theorem tyD_dict (xs : List (D × D)) : tyD (.dict xs) = "dict" := rfl
theorem is_nn : cIs .none .none = some true := rfl
theorem is_bn (b : Bool) : cIs (.bool b) .none = some false := rfl
theorem is_in (b : Int) : cIs (.int b) .none = some false := rfl
theorem is_sn (b : Str) : cIs (.str b) .none = some false := rfl
theorem is_ln (b : List D) : cIs (.list b) .none = some false := rfl
theorem is_tn (b : List D) : cIs (.tuple b) .none = some false := rfl
theorem is_bb (a b : Bool) : cIs (.bool a) (.bool b) = some (decide (a = b)) := rfl
theorem isn_nn : cIsNot .none .none = some false := rfl
theorem isn_bn (b : Bool) : cIsNot (.bool b) .none = some true := rfl
theorem isn_in (b : Int) : cIsNot (.int b) .none = some true := rfl
theorem isn_sn (b : Str) : cIsNot (.str b) .none = some true := rfl
theorem isn_ln (b : List D) : cIsNot (.list b) .none = some true := rfl
theorem isn_tn (b : List D) : cIsNot (.tuple b) .none = some true := rfl
theorem isn_bb (a b : Bool) : cIsNot (.bool a) (.bool b) = some (!decide (a = b)) := rfl
theorem set_l0 (a b d : D) : sSet (.list [a, b]) (.int 0) d = some (.list [d, b]) := rfl
theorem set_l1 (a b d : D) : sSet (.list [a, b]) (.int 1) d = some (.list [a, d]) := rfl
theorem light_f (d : D) : light false d = imm d := rfl
theorem light_t (d : D) : light true d = inner d := rfl
theorem wOf_f (d : D) : wOf false d = .sh d := rfl
theorem wOf_t (d : D) : wOf true d = .fr d := rfl
theorem imm_none : imm .none = true := rfl
theorem imm_bool (b : Bool) : imm (.bool b) = true := rfl
theorem imm_int (i : Int) : imm (.int i) = true := rfl
theorem imm_str (x : Str) : imm (.str x) = true := rfl
theorem imm_tup (ds : List D) : imm (.tuple ds) = imms ds := rfl
theorem imm_list (ds : List D) : imm (.list ds) = false := rfl
theorem imms_nil : imms [] = true := rfl
theorem imms_cons (d : D) (ds : List D) : imms (d :: ds) = (imm d && imms ds) := rfl
theorem inner_list (ds : List D) : inner (.list ds) = imms ds := rfl
theorem dCmp_ap (sem : D → D → Option Bool) (fa fb : DE) (ρ : En) : dCmp sem fa fb ρ = dBin (wB sem) fa fb ρ := rfl
theorem app_list {xs : List D} (d : D) (h : xs.length < 16777216) : mApp (.list xs) [d] = some (.none, .list (xs ++ [d])) := if_pos h
theorem dTruT_eq (fa : DE) (ρ : En) : dTruT fa ρ = (fa ρ).bind fun x => (x.1.get x.2).bind fun a => (dTru a).map fun k => (k, x.2) := rfl
/-! ### loops -/
section
variable {α : Type} {emb : α → D} {tg : DG} {body : DS} {vs : List Nat}
/-- a loop by what holds of the rest and the slots; it may end early -/
theorem forGo_out {R : List α → En → Prop} {Q : Fl → Prop} (h0 : ∀ ρ, R [] ρ → Q (.nx ρ))
    (h : ∀ x xs ρ, R (x :: xs) ρ → ∃ ρ1 fl, tg (emb x) ρ = some ρ1 ∧ body ρ1 = some fl ∧ match fl with
      | .nx ρ2 => ∃ ρ3, ρ2.wipe vs = some ρ3 ∧ R xs ρ3
      | .ct ρ2 => ∃ ρ3, ρ2.wipe vs = some ρ3 ∧ R xs ρ3
      | .bk ρ2 => Q (.nx ρ2)
      | .rt w ρ2 => Q (.rt w ρ2)) : ∀ (xs : List α) (ρ : En), R xs ρ → ∃ fl, forGo tg body vs (xs.map emb) ρ = some fl ∧ Q fl
  | [], ρ, r => ⟨_, rfl, h0 ρ r⟩
  | x :: xs, ρ, r => by
    obtain ⟨ρ1, fl, e1, e2, q⟩ := h x xs ρ r
    rw [List.map_cons, forGo, e1, Option.bind_some, e2, Option.bind_some]
    cases fl with
    | nx ρ2 =>
      obtain ⟨ρ3, e3, r3⟩ := q
      simp only [e3, Option.bind_some]
      exact forGo_out h0 h xs ρ3 r3
    | ct ρ2 =>
      obtain ⟨ρ3, e3, r3⟩ := q
      simp only [e3, Option.bind_some]
      exact forGo_out h0 h xs ρ3 r3
    | bk ρ2 => exact ⟨_, rfl, q⟩
    | rt w ρ2 => exact ⟨_, rfl, q⟩
/-- one turn of a loop that goes on -/
def turnOf (tg : DG) (body : DS) (vs : List Nat) (d : D) (ρ : En) : Option En := (tg d ρ).bind fun ρ1 => (body ρ1).bind fun fl => match fl with
  | .nx ρ2 => ρ2.wipe vs
  | .ct ρ2 => ρ2.wipe vs
  | _ => none
theorem turn_gN {i : Nat} {d : D} {ρ ρ2 ρ3 : En} (hb : body ⟨ρ.cup, ρ.sl.set i (some (.sh d))⟩ = some (.nx ρ2)) (hw : ρ2.wipe vs = some ρ3) (hi : decide (i < ρ.sl.length) = true := by rfl) (hc : (ρ.cup && i == 0) = false := by rfl) :
    turnOf (gN i) body vs d ρ = some ρ3 := by
  have hi : i < ρ.sl.length := of_decide_eq_true hi
  have hc : ¬ (ρ.cup = true ∧ i = 0) := fun z => by
    rw [z.1, z.2] at hc
    cases hc
  unfold turnOf gN En.set
  rw [if_neg (fun z => z.elim hc fun y => y hi), Option.bind_some]
  show (body ⟨ρ.cup, ρ.sl.set i (some (.sh d))⟩).bind _ = _
  rw [hb, Option.bind_some]
  exact hw
theorem forGo_turn {d : D} {ds : List D} {ρ ρ' : En} (h : turnOf tg body vs d ρ = some ρ') : forGo tg body vs (d :: ds) ρ = forGo tg body vs ds ρ' := by
  obtain ⟨ρ1, e1, h⟩ := Option.bind_eq_some_iff.mp h
  obtain ⟨fl, e2, h⟩ := Option.bind_eq_some_iff.mp h
  rw [forGo, e1, Option.bind_some, e2, Option.bind_some]
  cases fl with
  | nx ρ2 =>
    have h : ρ2.wipe vs = some ρ' := h
    simp only [h, Option.bind_some]
  | ct ρ2 =>
    have h : ρ2.wipe vs = some ρ' := h
    simp only [h, Option.bind_some]
  | bk ρ2 => cases h
  | rt w ρ2 => cases h
/-- a loop that never ends early, its slots told by how far it went -/
theorem forGo_from (E : Nat → En) : ∀ (ds : List D) (n : Nat), (∀ i d, ds[i]? = some d → turnOf tg body vs d (E (n + i)) = some (E (n + i + 1))) →
    forGo tg body vs ds (E n) = some (.nx (E (n + ds.length)))
  | [], n, _ => rfl
  | d :: ds, n, h => by
    have h0 : turnOf tg body vs d (E n) = some (E (n + 1)) := h 0 d rfl
    rw [forGo_turn h0]
    have ih := forGo_from E ds (n + 1) fun i d' hd => by
      have := h (i + 1) d' (by rw [List.getElem?_cons_succ]; exact hd)
      rw [show n + 1 + i = n + (i + 1) by omega]
      exact this
    rw [ih, List.length_cons, show n + 1 + ds.length = n + (ds.length + 1) by omega]
theorem forGo_at (E : Nat → En) (ds : List D) (h : ∀ i d, ds[i]? = some d → turnOf tg body vs d (E i) = some (E (i + 1))) :
    forGo tg body vs ds (E 0) = some (.nx (E ds.length)) := by
  have := forGo_from (tg := tg) (body := body) (vs := vs) E ds 0 fun i d hd => by
    rw [Nat.zero_add]; exact h i d hd
  rwa [Nat.zero_add] at this
theorem dFor_at {fi : DI} {ρ : En} {n : Nat} (E : Nat → En) (ds : List D) (hf : fi ρ = some (ds, E 0)) (hn : ds.length = n) (h : ∀ i d, ds[i]? = some d → turnOf tg body vs d (E i) = some (E (i + 1))) :
    dFor fi tg body vs ρ = some (.nx (E n)) := by
  unfold dFor
  rw [hf, Option.bind_some, ← hn]
  exact forGo_at E ds h
/-- a loop that never ends early, its slots told by a state -/
theorem forGo_fold {S : Type} (E : S → En) (step : S → α → S) (I : S → Prop) (Ok : α → Prop) (h : ∀ x s, Ok x → I s → ∃ ρ1 ρ2, tg (emb x) (E s) = some ρ1 ∧ body ρ1 = some (.nx ρ2) ∧ ρ2.wipe vs = some (E (step s x)) ∧ I (step s x)) :
    ∀ (xs : List α) (s : S), (∀ x ∈ xs, Ok x) → I s → forGo tg body vs (xs.map emb) (E s) = some (.nx (E (xs.foldl step s))) ∧ I (xs.foldl step s)
  | [], s, _, i => ⟨rfl, i⟩
  | x :: xs, s, o, i => by
    obtain ⟨ρ1, ρ2, e1, e2, e3, i'⟩ := h x s (o x List.mem_cons_self) i
    rw [List.map_cons, forGo, e1, Option.bind_some, e2, Option.bind_some]
    simp only [e3, Option.bind_some]
    exact forGo_fold E step I Ok h xs _ (fun y hy => o y (List.mem_cons_of_mem _ hy)) i'
variable {ft : DT} {fe : DE}
/-- a comprehension whose slots stay as they are -/
theorem lcGo_map {E : En} (p : α → Bool) (k : α → D) : ∀ (xs : List α) (acc : List D), (∀ x ∈ xs, ∃ ρ1 ρ2, tg (emb x) E = some ρ1 ∧ ft ρ1 = some (p x, ρ2) ∧
      (p x = true → ∃ w ρ3 ρ4, fe ρ2 = some (w, ρ3) ∧ w.give ρ3 = some (k x, ρ4) ∧ ρ4.wipe vs = some E) ∧ (p x = false → ρ2.wipe vs = some E)) →
    lcGo tg ft fe vs (xs.map emb) acc E = some (acc ++ (xs.filter p).map k, E)
  | [], acc, _ => by rw [List.map_nil, lcGo, List.filter_nil, List.map_nil, List.append_nil]
  | x :: xs, acc, h => by
    obtain ⟨ρ1, ρ2, e1, e2, h1, h2⟩ := h x List.mem_cons_self
    have ih := fun a => lcGo_map p k xs a fun y hy => h y (List.mem_cons_of_mem _ hy)
    rw [List.map_cons, lcGo, e1, Option.bind_some, e2, Option.bind_some]
    cases hp : p x with
    | true =>
      obtain ⟨w, ρ3, ρ4, e3, e4, e5⟩ := h1 hp
      rw [if_pos rfl, e3, Option.bind_some, e4, Option.bind_some, e5, Option.bind_some, ih, List.filter_cons_of_pos hp, List.map_cons, List.append_assoc]
      rfl
    | false =>
      rw [if_neg (show ¬ (false = true) from Bool.false_ne_true), h2 hp, Option.bind_some, ih, List.filter_cons_of_neg (by rw [hp]; decide)]
theorem dLc_map {fi : DI} {ρ ρ0 ρe E : En} {ds : List D} (p : α → Bool) (k : α → D) (xs : List α) (h1 : fi ρ = some (ds, ρ0)) (hd : ds = xs.map emb) (hl : xs.length ≤ 16777216) (hw : ρ0.wipe vs = some E)
    (h : ∀ x ∈ xs, ∃ ρ1 ρ2, tg (emb x) E = some ρ1 ∧ ft ρ1 = some (p x, ρ2) ∧
      (p x = true → ∃ w ρ3 ρ4, fe ρ2 = some (w, ρ3) ∧ w.give ρ3 = some (k x, ρ4) ∧ ρ4.wipe vs = some E) ∧ (p x = false → ρ2.wipe vs = some E))
    (he : ({ E with sl := restoreS ρ0.sl E.sl vs } : En) = ρe) : dLc fi tg ft fe vs ρ = some (.fr (.list ((xs.filter p).map k)), ρe) := by
  unfold dLc
  rw [h1, Option.bind_some]
  simp only
  rw [if_pos (by rw [hd, List.length_map]; exact hl), hw, Option.bind_some, hd, lcGo_map p k xs [] h, Option.map_some, ← he, List.nil_append]
/-- without a test -/
theorem dLc_all {fi : DI} {ρ ρ0 ρe E : En} {ds : List D} (k : α → D) (xs : List α) (h1 : fi ρ = some (ds, ρ0)) (hd : ds = xs.map emb) (hl : xs.length ≤ 16777216) (hw : ρ0.wipe vs = some E)
    (h : ∀ x ∈ xs, ∃ ρ1 w ρ3 ρ4, tg (emb x) E = some ρ1 ∧ fe ρ1 = some (w, ρ3) ∧ w.give ρ3 = some (k x, ρ4) ∧ ρ4.wipe vs = some E)
    (he : ({ E with sl := restoreS ρ0.sl E.sl vs } : En) = ρe) : dLc fi tg dYes fe vs ρ = some (.fr (.list (xs.map k)), ρe) := by
  have := dLc_map (tg := tg) (ft := dYes) (fe := fe) (vs := vs) (emb := emb) (fun _ => true) k xs h1 hd hl hw (fun x hx => by
    obtain ⟨ρ1, w, ρ3, ρ4, e1, e2, e3, e4⟩ := h x hx
    exact ⟨ρ1, ρ1, e1, rfl, fun _ => ⟨w, ρ3, ρ4, e2, e3, e4⟩, fun z => by cases z⟩) he
  have e : xs.filter (fun _ => true) = xs := List.filter_eq_self.mpr fun _ _ => rfl
  rwa [e] at this
/-- a comprehension that changes slots: by what holds of the rest, what is made, and the slots -/
theorem lcGo_rel {R : List α → List D → En → Prop} (h : ∀ x xs acc ρ, R (x :: xs) acc ρ → ∃ ρ1 b ρ2, tg (emb x) ρ = some ρ1 ∧ ft ρ1 = some (b, ρ2) ∧
      (b = true → ∃ w ρ3 d ρ4 ρ5, fe ρ2 = some (w, ρ3) ∧ w.give ρ3 = some (d, ρ4) ∧ ρ4.wipe vs = some ρ5 ∧ R xs (acc ++ [d]) ρ5) ∧ (b = false → ∃ ρ5, ρ2.wipe vs = some ρ5 ∧ R xs acc ρ5)) :
    ∀ (xs : List α) (acc : List D) (ρ : En), R xs acc ρ → ∃ acc' ρ', lcGo tg ft fe vs (xs.map emb) acc ρ = some (acc', ρ') ∧ R [] acc' ρ'
  | [], acc, ρ, r => ⟨acc, ρ, rfl, r⟩
  | x :: xs, acc, ρ, r => by
    obtain ⟨ρ1, b, ρ2, e1, e2, h1, h2⟩ := h x xs acc ρ r
    rw [List.map_cons, lcGo, e1, Option.bind_some, e2, Option.bind_some]
    cases b with
    | true =>
      obtain ⟨w, ρ3, d, ρ4, ρ5, e3, e4, e5, r5⟩ := h1 rfl
      rw [if_pos rfl, e3, Option.bind_some, e4, Option.bind_some, e5, Option.bind_some]
      exact lcGo_rel h xs _ _ r5
    | false =>
      obtain ⟨ρ5, e5, r5⟩ := h2 rfl
      rw [if_neg (show ¬ (false = true) from Bool.false_ne_true), e5, Option.bind_some]
      exact lcGo_rel h xs _ _ r5
end

/-! ### comprehensions with one name -/
section
variable {α : Type} {emb : α → D}
def En.with (ρ : En) (i : Nat) (d : D) : En := ⟨ρ.cup, ρ.sl.set i (some (.sh d))⟩
theorem set_back {α : Type} {l : List α} {i : Nat} {x y : α} (h : l[i]? = some x) : (l.set i y).set i x = l := by
  obtain ⟨hl, e⟩ := List.getElem?_eq_some_iff.mp h
  rw [List.set_set, ← e, List.set_getElem_self]
theorem dLc_one {i : Nat} {ρ : En} {fi : DI} {ft : DT} {fe : DE} {ds : List D} (p : α → Bool) (k : α → D) (xs : List α) (h1 : fi ρ = some (ds, ρ)) (hd : ds = xs.map emb) (hl : xs.length ≤ 16777216)
    (ht : ∀ x ∈ xs, ft (ρ.with i (emb x)) = some (p x, ρ.with i (emb x)))
    (h : ∀ x ∈ xs, p x = true → fe (ρ.with i (emb x)) = some (.sh (k x), ρ.with i (emb x)) ∨ fe (ρ.with i (emb x)) = some (.fr (k x), ρ.with i (emb x)))
    (hi : decide (i < ρ.sl.length) = true := by rfl) (hc : (ρ.cup && i == 0) = false := by rfl) :
    dLc fi (gN i) ft fe [i] ρ = some (.fr (.list ((xs.filter p).map k)), ρ) := by
  have hi : i < ρ.sl.length := of_decide_eq_true hi
  have hc : ¬ (ρ.cup = true ∧ i = 0) := fun z => by
    rw [z.1, z.2] at hc
    cases hc
  have hc' : ¬ (ρ.cup = true ∧ 0 ∈ [i]) := fun z => hc ⟨z.1, (by simpa using z.2 : 0 = i).symm⟩
  have w1 : ∀ d, (ρ.with i d).wipe [i] = some ⟨ρ.cup, ρ.sl.set i none⟩ := fun d => by
    unfold En.wipe En.with
    rw [if_neg hc']
    simp only [wipeS, List.set_set]
  refine dLc_map (E := ⟨ρ.cup, ρ.sl.set i none⟩) p k xs h1 hd hl (by unfold En.wipe; rw [if_neg hc']; rfl) (fun x hx => ⟨ρ.with i (emb x), ρ.with i (emb x), ?_, ht x hx, fun hp => ?_, fun _ => w1 _⟩) ?_
  · unfold gN En.set
    have n1 : ¬ ((ρ.cup = true ∧ i = 0) ∨ ¬ i < (ρ.sl.set i none).length) := fun z => z.elim hc fun y => y (by rw [List.length_set]; exact hi)
    rw [if_neg n1]
    simp only [List.set_set]
    rfl
  · rcases h x hx hp with e | e
    · exact ⟨_, _, _, e, rfl, w1 _⟩
    · exact ⟨_, _, _, e, rfl, w1 _⟩
  · have e : ρ.sl[i]? = some ρ.sl[i] := List.getElem?_eq_getElem hi
    show (⟨ρ.cup, (ρ.sl.set i none).set i ((ρ.sl[i]?).getD none)⟩ : En) = ρ
    rw [e, Option.getD_some, set_back e]
theorem dLc_sh {i : Nat} {ρ : En} {fi : DI} {fe : DE} {ds : List D} (k : α → D) (xs : List α) (h1 : fi ρ = some (ds, ρ)) (hd : ds = xs.map emb) (hl : xs.length ≤ 16777216)
    (h : ∀ x ∈ xs, fe (ρ.with i (emb x)) = some (.sh (k x), ρ.with i (emb x))) (hi : decide (i < ρ.sl.length) = true := by rfl) (hc : (ρ.cup && i == 0) = false := by rfl) : dLc fi (gN i) dYes fe [i] ρ = some (.fr (.list (xs.map k)), ρ) := by
  have := dLc_one (ft := dYes) (fe := fe) (fun _ => true) k xs h1 hd hl (fun _ _ => rfl) (fun x hx _ => .inl (h x hx)) hi hc
  have e : xs.filter (fun _ => true) = xs := List.filter_eq_self.mpr fun _ _ => rfl
  rwa [e] at this
theorem dLc_fr {i : Nat} {ρ : En} {fi : DI} {fe : DE} {ds : List D} (k : α → D) (xs : List α) (h1 : fi ρ = some (ds, ρ)) (hd : ds = xs.map emb) (hl : xs.length ≤ 16777216)
    (h : ∀ x ∈ xs, fe (ρ.with i (emb x)) = some (.fr (k x), ρ.with i (emb x))) (hi : decide (i < ρ.sl.length) = true := by rfl) (hc : (ρ.cup && i == 0) = false := by rfl) : dLc fi (gN i) dYes fe [i] ρ = some (.fr (.list (xs.map k)), ρ) := by
  have := dLc_one (ft := dYes) (fe := fe) (fun _ => true) k xs h1 hd hl (fun _ _ => rfl) (fun x hx _ => .inr (h x hx)) hi hc
  have e : xs.filter (fun _ => true) = xs := List.filter_eq_self.mpr fun _ _ => rfl
  rwa [e] at this
end
/-- a comprehension that goes on from state to state -/
theorem dLc_thr {S : Type} (E : S → En) (I : S → Prop) (P : D → Prop) {i : Nat} {o : Option Sl} {fi : DI} {fe : DE} {ds : List D} {s0 : S} (h1 : fi (E s0) = some (ds, E s0)) (hl : ds.length ≤ 16777216) (i0 : I s0)
    (h : ∀ d ∈ ds, ∀ s, I s → ∃ s' w y, fe ((E s).with i d) = some (w, (E s').with i d) ∧ (w = .sh y ∨ w = .fr y) ∧ I s' ∧ P y)
    (hi : ∀ s, (E s).sl[i]? = some o := by intro _; rfl) (hc : ∀ s, ((E s).cup && i == 0) = false := by intro _; rfl) :
    ∃ s' ys, dLc fi (gN i) dYes fe [i] (E s0) = some (.fr (.list ys), E s') ∧ I s' ∧ ys.length = ds.length ∧ ∀ y ∈ ys, P y := by
  have hi' : ∀ s, i < (E s).sl.length := fun s => (List.getElem?_eq_some_iff.mp (hi s)).1
  have hc' : ∀ s, ¬ ((E s).cup = true ∧ i = 0) := fun s z => by
    have := hc s
    rw [z.1, z.2] at this
    cases this
  have hcw : ∀ s, ¬ ((E s).cup = true ∧ 0 ∈ [i]) := fun s z => hc' s ⟨z.1, (by simpa using z.2 : 0 = i).symm⟩
  have w0 : ∀ s, (E s).wipe [i] = some ⟨(E s).cup, (E s).sl.set i none⟩ := fun s => by unfold En.wipe; rw [if_neg (hcw s)]; rfl
  have w1 : ∀ s d, ((E s).with i d).wipe [i] = some ⟨(E s).cup, (E s).sl.set i none⟩ := fun s d => by
    unfold En.wipe En.with
    rw [if_neg (hcw s)]
    simp only [wipeS, List.set_set]
  obtain ⟨ys, ρ', e, s', ei, hI, hn, hP⟩ := lcGo_rel (emb := id) (tg := gN i) (ft := dYes) (fe := fe) (vs := [i]) (R := fun rest acc ρ => ∃ s, ρ = ⟨(E s).cup, (E s).sl.set i none⟩ ∧ I s ∧ acc.length + rest.length = ds.length ∧ (∀ y ∈ acc, P y) ∧ ∀ d ∈ rest, d ∈ ds) (fun x xs acc ρ hr => by
    obtain ⟨s, rfl, hI, hn, hP, hs⟩ := hr
    obtain ⟨s', w, y, e, hw, hI', hy⟩ := h x (hs x List.mem_cons_self) s hI
    have n1 : ¬ (((E s).cup = true ∧ i = 0) ∨ ¬ i < ((E s).sl.set i none).length) := fun z => z.elim (hc' s) fun k => k (by rw [List.length_set]; exact hi' s)
    refine ⟨(E s).with i x, true, (E s).with i x, ?_, rfl, fun _ => ?_, fun z => by cases z⟩
    · show (if _ then _ else _) = _
      rw [if_neg n1]
      simp only [List.set_set]
      rfl
    · refine ⟨w, _, y, (E s').with i x, _, e, ?_, w1 s' x, s', rfl, hI', ?_, ?_, fun d hd => hs d (List.mem_cons_of_mem _ hd)⟩
      · rcases hw with rfl | rfl <;> rfl
      · rw [List.length_append, List.length_singleton]
        rw [List.length_cons] at hn
        omega
      · intro z hz
        rcases List.mem_append.mp hz with hz | hz
        · exact hP z hz
        · rw [List.mem_singleton.mp hz]; exact hy) ds [] ⟨(E s0).cup, (E s0).sl.set i none⟩ ⟨s0, rfl, i0, by simp, by simp, fun d hd => hd⟩
  rw [List.map_id] at e
  subst ei
  refine ⟨s', ys, ?_, hI, by simpa using hn, hP.1⟩
  unfold dLc
  rw [h1, Option.bind_some]
  simp only
  rw [if_pos hl, w0, Option.bind_some, e, Option.map_some]
  congr 3
  show ((E s').sl.set i none).set i (((E s0).sl[i]?).getD none) = (E s').sl
  rw [hi s0, Option.getD_some, set_back (hi s')]
/-- where the walked thing's evaluation changes the slots -/
theorem dLc_from {fi : DI} {tg : DG} {ft : DT} {fe : DE} {vs : List Nat} {ρ ρ0 : En} {ds : List D} (h : fi ρ = some (ds, ρ0)) : dLc fi tg ft fe vs ρ = dLc (fun _ => some (ds, ρ0)) tg ft fe vs ρ0 := by
  unfold dLc
  rw [h]
theorem dFor_from {fi : DI} {tg : DG} {body : DS} {vs : List Nat} {ρ ρ0 : En} {ds : List D} (h : fi ρ = some (ds, ρ0)) : dFor fi tg body vs ρ = forGo tg body vs ds ρ0 := by
  unfold dFor
  rw [h]
  rfl
theorem dSet_fr {i : Nat} {fa : DE} {ρ ρ1 : En} {d : D} (h : fa ρ = some (.fr d, ρ1)) : dSet i fa ρ = (ρ1.set i (.own d)).map .nx := by
  unfold dSet
  rw [h, Option.bind_some]
  simp only [settle, Option.map_some, Option.bind_some, puts, En.put]
  cases ρ1.set i (.own d) <;> rfl
theorem dSet_sh {i : Nat} {fa : DE} {ρ ρ1 : En} {d : D} (h : fa ρ = some (.sh d, ρ1)) : dSet i fa ρ = (ρ1.set i (.sh d)).map .nx := by
  unfold dSet
  rw [h, Option.bind_some]
  simp only [settle, Option.map_some, Option.bind_some, puts, En.put]
  cases ρ1.set i (.sh d) <;> rfl
theorem bAll_bools (bs : List Bool) : bAll (.list (bs.map .bool)) = some (.sh (.bool (bs.all id))) := by
  simp only [bAll, bools?_map, Option.map_some]
theorem bAll_true {α : Type} {l : List α} {k : α → D} (h : ∀ x ∈ l, k x = .bool true) : bAll (.list (l.map k)) = some (.sh (.bool true)) := by
  have e : l.map k = (l.map fun _ => true).map PyData.bool := by
    rw [List.map_map]
    exact List.map_congr_left h
  rw [e, bAll_bools]
  congr 3
  simp
theorem bSum_ints (ns : List Int) : bSum (.list (ns.map .int)) = some (.sh (.int ns.sum)) := by
  simp only [bSum, ints?_map, Option.map_some]
theorem bSum_intsT (ns : List Int) : bSum (.tuple (ns.map .int)) = some (.sh (.int ns.sum)) := by
  simp only [bSum, ints?_map, Option.map_some]

/-! ### places -/
theorem map_at {α : Type} {emb : α → D} {xs : List α} {i : Nat} {d : D} (h : (xs.map emb)[i]? = some d) : ∃ x, xs[i]? = some x ∧ d = emb x := by
  rw [List.getElem?_map] at h
  obtain ⟨x, e1, e2⟩ := Option.map_eq_some_iff.mp h
  exact ⟨x, e1, e2.symm⟩
theorem enD_at {xs : List D} {i : Nat} {d : D} (h : (enD xs)[i]? = some d) : ∃ x, xs[i]? = some x ∧ d = .tuple [.int (i : Int), x] := by
  unfold enD zipD at h
  rw [List.getElem?_zipWith_eq_some] at h
  obtain ⟨a, b, h1, h2, h3⟩ := h
  rw [List.getElem?_map] at h1
  obtain ⟨j, e1, e2⟩ := Option.map_eq_some_iff.mp h1
  obtain ⟨hj, e3⟩ := List.getElem?_eq_some_iff.mp e1
  rw [List.getElem_range] at e3
  subst e3
  exact ⟨b, h2, by rw [← h3, ← e2]⟩
theorem enD_len (xs : List D) : (enD xs).length = xs.length := by
  unfold enD zipD
  rw [List.length_zipWith, List.length_map, List.length_range, Nat.min_self]
theorem zipD_at {xs ys : List D} {i : Nat} {d : D} (h : (zipD xs ys)[i]? = some d) : ∃ x y, xs[i]? = some x ∧ ys[i]? = some y ∧ d = .tuple [x, y] := by
  unfold zipD at h
  rw [List.getElem?_zipWith_eq_some] at h
  obtain ⟨a, b, h1, h2, h3⟩ := h
  exact ⟨a, b, h1, h2, h3.symm⟩
theorem rgD_at {lo : Int} {n i : Nat} {d : D} (h : (rgD lo n)[i]? = some d) : i < n ∧ d = .int (lo + (i : Int)) := by
  refine ⟨?_, rgD_get h⟩
  have := (List.getElem?_eq_some_iff.mp h).1
  unfold rgD at this
  simpa using this
theorem rgD_len (lo : Int) (n : Nat) : (rgD lo n).length = n := by unfold rgD; simp
theorem rgD_nat (n : Nat) : rgD 0 n = (List.range n).map fun (i : Nat) => PyData.int (i : Int) := by
  unfold rgD
  exact List.map_congr_left fun i _ => by rw [Int.zero_add]
theorem range_at {α : Type} {f : Nat → α} {n j : Nat} (h : j < n) : ((List.range n).map f)[j]? = some (f j) := by
  rw [List.getElem?_map, List.getElem?_range h]; rfl
theorem range_last {α : Type} (f : Nat → α) (n : Nat) : (List.range (n + 1)).map f = (List.range n).map f ++ [f n] := by
  rw [List.range_succ, List.map_append]; rfl
theorem rg1_at {fa : DE} {ρ ρ1 : En} {n : Nat} (h : fa ρ = some (.sh (.int (n : Int)), ρ1)) (hn : n < 4611686018427387904) : dRg1 fa ρ = some (rgD 0 n, ρ1) := by
  unfold dRg1
  rw [h, Option.bind_some]
  simp only
  rw [if_pos (show okRg (n : Int) from ⟨by omega, by omega⟩), Int.toNat_natCast]
theorem rg2_at {fa fb : DE} {ρ ρ1 ρ2 : En} {a b : Int} (h1 : fa ρ = some (.sh (.int a), ρ1)) (h2 : fb ρ1 = some (.sh (.int b), ρ2)) (ha : -4611686018427387904 ≤ a ∧ a < 4611686018427387904) (hb : -4611686018427387904 ≤ b ∧ b < 4611686018427387904) :
    dRg2 fa fb ρ = some (rgD a (b - a).toNat, ρ2) := by
  unfold dRg2
  rw [h1, Option.bind_some]
  simp only
  rw [h2, Option.bind_some]
  simp only
  rw [if_pos (show okRg a ∧ okRg b from ⟨ha, hb⟩)]
theorem dVar_sh {i : Nat} {ρ : En} {d : D} (h : ρ.sl[i]? = some (some (.sh d))) : dVar i ρ = some (.sh d, ρ) := by unfold dVar; rw [h]
theorem rg1_var {i : Nat} {ρ : En} {n : Nat} (h : ρ.sl[i]? = some (some (.sh (.int (n : Int))))) (hn : n < 4611686018427387904) : dRg1 (dVar i) ρ = some (rgD 0 n, ρ) := rg1_at (dVar_sh h) hn
theorem rg2_vars {i j : Nat} {ρ : En} {a b : Nat} (h1 : ρ.sl[i]? = some (some (.sh (.int (a : Int))))) (h2 : ρ.sl[j]? = some (some (.sh (.int (b : Int))))) (ha : a ≤ 1000000) (hb : b ≤ 1000000) :
    dRg2 (dVar i) (dVar j) ρ = some (rgD (a : Int) (b - a), ρ) := by
  rw [rg2_at (dVar_sh h1) (dVar_sh h2) ⟨by omega, by omega⟩ ⟨by omega, by omega⟩, show ((b : Int) - (a : Int)).toNat = b - a by omega]
theorem dAugL_at {i : Nat} {fe : DE} {ρ ρ1 : En} {w : W} {xs ys : List D} (h1 : fe ρ = some (w, ρ1)) (hl : xs.length + ys.length ≤ 16777216) (h0 : ρ.mine i = some (.list xs) := by rfl) (h2 : w.get ρ1 = some (.list ys) := by rfl) (h3 : ρ1.mine i = some (.list xs) := by rfl) :
    dAugL i fe ρ = some (.nx (ρ1.own i (.list (xs ++ ys)))) := by
  unfold dAugL
  rw [h0, Option.bind_some, h1, Option.bind_some]
  simp only [h2, h3, Option.bind_some]
  rw [if_pos hl]
theorem dB1_at {sem : D → Option W} {fa : DE} {ρ ρ1 : En} {w u : W} {a : D} (h : fa ρ = some (w, ρ1)) (hs : sem a = some u) (hg : w.get ρ1 = some a := by rfl) : dB1 sem fa ρ = some (u, ρ1) := by
  unfold dB1
  rw [h, Option.bind_some]
  simp only [hg, Option.bind_some, hs, Option.map_some]
theorem dSeq_nx {f1 f2 : DS} {ρ ρ1 : En} (h : f1 ρ = some (.nx ρ1)) : dSeq f1 f2 ρ = f2 ρ1 := by unfold dSeq; rw [h]; rfl
theorem dSeq_rt {f1 f2 : DS} {ρ ρ1 : En} {w : W} (h : f1 ρ = some (.rt w ρ1)) : dSeq f1 f2 ρ = some (.rt w ρ1) := by unfold dSeq; rw [h]; rfl
/-! ### sizes -/
theorem imms_map_int (ns : List Int) : imms (ns.map PyData.int) = true := by
  induction ns with
  | nil => rfl
  | cons n ns ih => rw [List.map_cons, imms, ih]; rfl
theorem imms_map {α : Type} {k : α → D} (h : ∀ x, imm (k x) = true) (l : List α) : imms (l.map k) = true := by
  induction l with
  | nil => rfl
  | cons n ns ih => rw [List.map_cons, imms, ih, h]; rfl
end PD
set_option Elab.async false
set_option linter.all false
set_option maxRecDepth 100000
set_option maxHeartbeats 4000000
namespace PD.K47
set_option autoImplicit false
open PySem PySem.Spec L2
open PyProof.Rows hiding St
noncomputable section
/-! ### the text -/
def topS (i : Nat) : Stmt := PySem.Challenge.pw_cellgrounds_k47_whole_sums_of_rectangles.main.body.getD i (.Pass ⟨0, 0, 0, 0⟩)
abbrev s_fits_whole : Stmt := topS 5
theorem sc_fits_whole : FnScope ["value", "low", "high"] ["value", "low", "high"] (defScope s_fits_whole) := ⟨rfl, rfl, rfl, by decide +kernel, rfl, by decide +kernel, by decide +kernel⟩
def b_fits_whole : DS := (dRet (dAndV (dB1 (bIsi "int") (dVar 0)) (dAndV (dNotV (dB1 (bIsi "bool") (dVar 0))) (dOfT (dChainT cLe cLe (dVar 1) (dVar 0) (dVar 2))))))
def m_fits_whole : FS := fun ds => if ds.length = 3 then semOf 3 b_fits_whole ds else none
abbrev s_is_tuple_of : Stmt := topS 6
theorem sc_is_tuple_of : FnScope ["value", "least", "most"] ["value", "least", "most"] (defScope s_is_tuple_of) := ⟨rfl, rfl, rfl, by decide +kernel, rfl, by decide +kernel, by decide +kernel⟩
def b_is_tuple_of : DS := (dRet (dAndV (dB1 (bIsi "tuple") (dVar 0)) (dOfT (dChainT cLe cLe (dVar 1) (dB1 bLen (dVar 0)) (dVar 2)))))
def m_is_tuple_of : FS := fun ds => if ds.length = 3 then semOf 3 b_is_tuple_of ds else none
abbrev s_sums_in : Stmt := topS 13
theorem sc_sums_in : FnScope ["table", "found", "row", "line", "last", "column", "number"] ["table"] (defScope s_sums_in) := ⟨rfl, rfl, rfl, by decide +kernel, rfl, by decide +kernel, by decide +kernel⟩
def l1_sums_in : DS := (dDrop (dMut "list" 3 (dCons (dBin bSub (dBin bAdd (dBin bAdd (dBin bIx (dVar 3) (dNeg (dC (.int 1)))) (dVar 6)) (dBin bIx (dVar 4) (dBin bAdd (dVar 5) (dC (.int 1))))) (dBin bIx (dVar 4) (dVar 5))) dNil) mApp))
def l2_sums_in : DS := (dSeq (dPar [3, 4] (dCons (dLst (dCons (dC (.int 0)) dNil)) (dCons (dBin bIx (dVar 1) (dNeg (dC (.int 1)))) dNil))) (dSeq (dFor (dEnum (dVar 2)) (gTup 2 (gCons (gN 5) (gCons (gN 6) gNil))) l1_sums_in [5, 6]) (dDrop (dMut "list" 1 (dCons (dVar 3) dNil) mApp))))
def b_sums_in : DS := (dSeq (dSet 1 (dLst (dCons (dBin bMul (dLst (dCons (dC (.int 0)) dNil)) (dBin bAdd (dB1 bLen (dBin bIx (dVar 0) (dC (.int 0)))) (dC (.int 1)))) dNil))) (dSeq (dFor (dItems (dVar 0)) (gN 2) l2_sums_in [2, 3, 4, 5, 6]) (dRet (dVar 1))))
def m_sums_in : FS := fun ds => if ds.length = 1 then semOf 7 b_sums_in ds else none
abbrev s_sum_by : Stmt := topS 14
theorem sc_sum_by : FnScope ["sums", "one", "top", "left", "bottom", "right"] ["sums", "one"] (defScope s_sum_by) := ⟨rfl, rfl, rfl, by decide +kernel, rfl, by decide +kernel, by decide +kernel⟩
def b_sum_by : DS := (dSeq (dUnp (gTup 4 (gCons (gN 2) (gCons (gN 3) (gCons (gN 4) (gCons (gN 5) gNil))))) (dVar 1)) (dRet (dBin bAdd (dBin bSub (dBin bSub (dBin bIx (dBin bIx (dVar 0) (dBin bAdd (dVar 4) (dC (.int 1)))) (dBin bAdd (dVar 5) (dC (.int 1)))) (dBin bIx (dBin bIx (dVar 0) (dVar 2)) (dBin bAdd (dVar 5) (dC (.int 1))))) (dBin bIx (dBin bIx (dVar 0) (dBin bAdd (dVar 4) (dC (.int 1)))) (dVar 3))) (dBin bIx (dBin bIx (dVar 0) (dVar 2)) (dVar 3)))))
def m_sum_by : FS := fun ds => if ds.length = 2 then semOf 6 b_sum_by ds else none
abbrev s_rectangles_in : Stmt := topS 15
theorem sc_rectangles_in : FnScope ["table", "high", "wide", "found", "top", "left", "bottom", "right"] ["table"] (defScope s_rectangles_in) := ⟨rfl, rfl, rfl, by decide +kernel, rfl, by decide +kernel, by decide +kernel⟩
def l1_rectangles_in : DS := (dAugL 3 (dLc (dRg2 (dVar 5) (dVar 2)) (gN 7) dYes (dTup (dCons (dVar 4) (dCons (dVar 5) (dCons (dVar 6) (dCons (dVar 7) dNil))))) [7]))
def l2_rectangles_in : DS := (dFor (dRg2 (dVar 4) (dVar 1)) (gN 6) l1_rectangles_in [6, 7])
def l3_rectangles_in : DS := (dFor (dRg1 (dVar 2)) (gN 5) l2_rectangles_in [5, 6, 7])
def b_rectangles_in : DS := (dSeq (dPar [1, 2, 3] (dCons (dB1 bLen (dVar 0)) (dCons (dB1 bLen (dBin bIx (dVar 0) (dC (.int 0)))) (dCons (dLst dNil) dNil)))) (dSeq (dFor (dRg1 (dVar 1)) (gN 4) l3_rectangles_in [4, 5, 6, 7]) (dRet (dVar 3))))
def m_rectangles_in : FS := fun ds => if ds.length = 1 then semOf 8 b_rectangles_in ds else none
abbrev s__law_cup : Stmt := topS 23
theorem sc__law_cup : FnScope ["script", "cell"] ["script"] (defScope s__law_cup) := ⟨rfl, rfl, rfl, by decide +kernel, rfl, by decide +kernel, by decide +kernel⟩
def b__law_cup : DS := (dRet (dLst (dCons (dIf (dCmpT cGe (dVar 1) (dBin bPow (dC (.int 10)) (dC (.int 18)))) (dBin bDiv (dVar 1) (dC (.int 1503))) (dC (.int 0))) (dCons (dBin bAdd (dBin bMod (dB1 bInt (dBin bAdd (dBin bMul (dVar 1) (dC (.int 2335))) (dC (.int 10791)))) (dC (.int 2077510337))) (dC (.int 1578))) dNil))))
abbrev s__law_roll : Stmt := topS 24
theorem sc__law_roll : FnScope ["cup", "many", "found", "deep"] ["cup", "many"] (defScope s__law_roll) := ⟨rfl, rfl, rfl, by decide +kernel, rfl, by decide +kernel, by decide +kernel⟩
def b__law_roll : DS := (dSeq (dIfS (dCmpT cGt (dBin bIx (dVar 0) (dC (.int 0))) (dC (.int 0))) (dSeq (dSet 2 (dBin bMod (dB1 bInt (dBin bIx (dVar 0) (dC (.int 0)))) (dVar 1))) (dSeq (dStIx 0 (dBin bDiv (dBin bIx (dVar 0) (dC (.int 0))) (dVar 1)) (dC (.int 0))) (dRet (dVar 2)))) dNx) (dSeq (dStIx 0 (dBin bMod (dB1 bInt (dBin bAdd (dBin bMul (dBin bIx (dVar 0) (dC (.int 1))) (dC (.int 37693))) (dC (.int 12331)))) (dC (.int 2147483423))) (dC (.int 1))) (dSeq (dSet 3 (dBin bMod (dB1 bInt (dBin bMul (dBin bIx (dVar 0) (dC (.int 1))) (dBin bAdd (dBin bIx (dVar 0) (dC (.int 1))) (dC (.int 1933))))) (dC (.int 2147483587)))) (dRet (dBin bMod (dB1 bInt (dBin bDiv (dVar 3) (dC (.int 2157)))) (dVar 1))))))
def m__law_roll : FC := fun cd ds => if ds.length + 1 = 2 then semC 4 b__law_roll cd ds else none
abbrev s__law_rectangles : Stmt := topS 28
theorem sc__law_rectangles : FnScope ["rows", "columns", "found", "top", "left", "bottom", "right"] ["rows", "columns"] (defScope s__law_rectangles) := ⟨rfl, rfl, rfl, by decide +kernel, rfl, by decide +kernel, by decide +kernel⟩
def l1__law_rectangles : DS := (dSet 2 (dBin bAdd (dVar 2) (dLc (dRg2 (dVar 4) (dVar 1)) (gN 6) dYes (dTup (dCons (dVar 3) (dCons (dVar 4) (dCons (dVar 5) (dCons (dVar 6) dNil))))) [6])))
def l2__law_rectangles : DS := (dFor (dRg2 (dVar 3) (dVar 0)) (gN 5) l1__law_rectangles [5, 6])
def l3__law_rectangles : DS := (dFor (dRg1 (dVar 1)) (gN 4) l2__law_rectangles [4, 5, 6])
def b__law_rectangles : DS := (dSeq (dSet 2 (dLst dNil)) (dSeq (dFor (dRg1 (dVar 0)) (gN 3) l3__law_rectangles [3, 4, 5, 6]) (dRet (dVar 2))))
def m__law_rectangles : FS := fun ds => if ds.length = 2 then semOf 7 b__law_rectangles ds else none
abbrev s__law_each : Stmt := topS 29
theorem sc__law_each : FnScope ["table", "times", "number", "line"] ["table", "times"] (defScope s__law_each) := ⟨rfl, rfl, rfl, by decide +kernel, rfl, by decide +kernel, by decide +kernel⟩
def b__law_each : DS := (dRet (dB1 bTuple (dLc (dItems (dVar 0)) (gN 3) dYes (dB1 bTuple (dLc (dItems (dVar 3)) (gN 2) dYes (dBin bMul (dVar 1) (dVar 2)) [2])) [3])))
def m__law_each : FS := fun ds => if ds.length = 2 then semOf 4 b__law_each ds else none
abbrev s_fits_table : Stmt := topS 10
theorem sc_fits_table : FnScope ["value", "low", "row", "number"] ["value", "low"] (defScope s_fits_table) := ⟨rfl, rfl, rfl, by decide +kernel, rfl, by decide +kernel, by decide +kernel⟩
def b_fits_table : DS := (dSeq (dIfS (dOrT (dNotT (dTruT (dCall m_is_tuple_of (dCons (dVar 0) (dCons (dC (.int 1)) (dCons (dC (.int (20))) dNil)))))) (dNotT (dTruT (dB1 bAll (dLc (dItems (dVar 0)) (gN 2) dYes (dCall m_is_tuple_of (dCons (dVar 2) (dCons (dC (.int 1)) (dCons (dC (.int (20))) dNil)))) [2]))))) (dRet (dC (.bool false))) dNx) (dSeq (dIfS (dNotT (dTruT (dB1 bAll (dLc (dItems (dVar 0)) (gN 2) dYes (dCmp cEq (dB1 bLen (dVar 2)) (dB1 bLen (dBin bIx (dVar 0) (dC (.int 0))))) [2])))) (dRet (dC (.bool false))) dNx) (dRet (dB1 bAll (dLc (dItems (dVar 0)) (gN 2) dYes (dB1 bAll (dLc (dItems (dVar 2)) (gN 3) dYes (dCall m_fits_whole (dCons (dVar 3) (dCons (dVar 1) (dCons (dC (.int (1000000))) dNil)))) [3])) [2])))))
def m_fits_table : FS := fun ds => if ds.length = 2 then semOf 4 b_fits_table ds else none
abbrev s_fits_place : Stmt := topS 12
theorem sc_fits_place : FnScope ["table", "value"] ["table", "value"] (defScope s_fits_place) := ⟨rfl, rfl, rfl, by decide +kernel, rfl, by decide +kernel, by decide +kernel⟩
def b_fits_place : DS := (dSeq (dIfS (dNotT (dTruT (dCall m_is_tuple_of (dCons (dVar 1) (dCons (dC (.int 2)) (dCons (dC (.int 2)) dNil)))))) (dRet (dC (.bool false))) dNx) (dRet (dAndV (dCall m_fits_whole (dCons (dBin bIx (dVar 1) (dC (.int 0))) (dCons (dC (.int 0)) (dCons (dBin bSub (dB1 bLen (dVar 0)) (dC (.int 1))) dNil)))) (dCall m_fits_whole (dCons (dBin bIx (dVar 1) (dC (.int 1))) (dCons (dC (.int 0)) (dCons (dBin bSub (dB1 bLen (dBin bIx (dVar 0) (dC (.int 0)))) (dC (.int 1))) dNil)))))))
def m_fits_place : FS := fun ds => if ds.length = 2 then semOf 2 b_fits_place ds else none
abbrev s__law_some : Stmt := topS 25
theorem sc__law_some : FnScope ["cup", "things"] ["cup", "things"] (defScope s__law_some) := ⟨rfl, rfl, rfl, by decide +kernel, rfl, by decide +kernel, by decide +kernel⟩
def b__law_some : DS := (dRet (dBin bIx (dVar 1) (dCallC m__law_roll (dCons (dVar 0) (dCons (dB1 bLen (dVar 1)) dNil)))))
def m__law_some : FC := fun cd ds => if ds.length + 1 = 2 then semC 2 b__law_some cd ds else none
abbrev s_need_table : Stmt := topS 11
theorem sc_need_table : FnScope ["table"] ["table"] (defScope s_need_table) := ⟨rfl, rfl, rfl, by decide +kernel, rfl, by decide +kernel, by decide +kernel⟩
def b_need_table : DS := (dIfS (dNotT (dTruT (dCall m_fits_table (dCons (dVar 0) (dCons (dNeg (dC (.int (1000000)))) dNil))))) dNever dNx)
def m_need_table : FS := fun ds => if ds.length = 1 then semOf 1 b_need_table ds else none
abbrev s_fits_rectangle : Stmt := topS 16
theorem sc_fits_rectangle : FnScope ["table", "value"] ["table", "value"] (defScope s_fits_rectangle) := ⟨rfl, rfl, rfl, by decide +kernel, rfl, by decide +kernel, by decide +kernel⟩
def b_fits_rectangle : DS := (dSeq (dIfS (dOrT (dNotT (dTruT (dCall m_is_tuple_of (dCons (dVar 1) (dCons (dC (.int 4)) (dCons (dC (.int 4)) dNil)))))) (dOrT (dNotT (dTruT (dCall m_fits_place (dCons (dVar 0) (dCons (dCut (dVar 1) dNo (dPart (dC (.int 2)))) dNil))))) (dNotT (dTruT (dCall m_fits_place (dCons (dVar 0) (dCons (dCut (dVar 1) (dPart (dC (.int 2))) dNo) dNil))))))) (dRet (dC (.bool false))) dNx) (dRet (dAndV (dCmp cLe (dBin bIx (dVar 1) (dC (.int 0))) (dBin bIx (dVar 1) (dC (.int 2)))) (dCmp cLe (dBin bIx (dVar 1) (dC (.int 1))) (dBin bIx (dVar 1) (dC (.int 3)))))))
def m_fits_rectangle : FS := fun ds => if ds.length = 2 then semOf 2 b_fits_rectangle ds else none
abbrev s_is_table : Stmt := topS 17
theorem sc_is_table : FnScope ["value"] ["value"] (defScope s_is_table) := ⟨rfl, rfl, rfl, by decide +kernel, rfl, by decide +kernel, by decide +kernel⟩
def b_is_table : DS := (dRet (dCall m_fits_table (dCons (dVar 0) (dCons (dNeg (dC (.int (1000000)))) dNil))))
def m_is_table : FS := fun ds => if ds.length = 1 then semOf 1 b_is_table ds else none
abbrev s__law_table : Stmt := topS 27
theorem sc__law_table : FnScope ["cup", "rows", "columns", "low", "wide", "column", "row"] ["cup", "rows", "columns"] (defScope s__law_table) := ⟨rfl, rfl, rfl, by decide +kernel, rfl, by decide +kernel, by decide +kernel⟩
def b__law_table : DS := (dSeq (dUnp (gTup 2 (gCons (gN 3) (gCons (gN 4) gNil))) (dCallC m__law_some (dCons (dVar 0) (dCons (dLst (dCons (dTup (dCons (dC (.int 0)) (dCons (dC (.int 2)) dNil))) (dCons (dTup (dCons (dNeg (dC (.int 1))) (dCons (dC (.int 3)) dNil))) (dCons (dTup (dCons (dNeg (dC (.int 3))) (dCons (dC (.int 7)) dNil))) (dCons (dTup (dCons (dNeg (dC (.int 2))) (dCons (dC (.int 2)) dNil))) (dCons (dTup (dCons (dC (.int 1)) (dCons (dC (.int 4)) dNil))) dNil)))))) dNil)))) (dRet (dB1 bTuple (dLc (dRg1 (dVar 1)) (gN 6) dYes (dB1 bTuple (dLc (dRg1 (dVar 2)) (gN 5) dYes (dBin bAdd (dVar 3) (dCallC m__law_roll (dCons (dVar 0) (dCons (dVar 4) dNil)))) [5])) [6]))))
def m__law_table : FC := fun cd ds => if ds.length + 1 = 3 then semC 7 b__law_table cd ds else none
abbrev s_sum_of : Stmt := topS 18
theorem sc_sum_of : FnScope ["table", "rectangle"] ["table", "rectangle"] (defScope s_sum_of) := ⟨rfl, rfl, rfl, by decide +kernel, rfl, by decide +kernel, by decide +kernel⟩
def b_sum_of : DS := (dSeq (dDrop (dCall m_need_table (dCons (dVar 0) dNil))) (dSeq (dIfS (dNotT (dTruT (dCall m_fits_rectangle (dCons (dVar 0) (dCons (dVar 1) dNil))))) dNever dNx) (dRet (dCall m_sum_by (dCons (dCall m_sums_in (dCons (dVar 0) dNil)) (dCons (dVar 1) dNil))))))
def m_sum_of : FS := fun ds => if ds.length = 2 then semOf 2 b_sum_of ds else none
abbrev s_greatest_sum : Stmt := topS 19
theorem sc_greatest_sum : FnScope ["table", "sums", "best", "one", "number"] ["table"] (defScope s_greatest_sum) := ⟨rfl, rfl, rfl, by decide +kernel, rfl, by decide +kernel, by decide +kernel⟩
def l1_greatest_sum : DS := (dSeq (dSet 4 (dCall m_sum_by (dCons (dVar 1) (dCons (dVar 3) dNil)))) (dIfS (dOrT (dCmpT cIs (dVar 2) (dC .none)) (dCmpT cGt (dVar 4) (dBin bIx (dVar 2) (dC (.int 0))))) (dSet 2 (dTup (dCons (dVar 4) (dCons (dVar 3) dNil)))) dNx))
def b_greatest_sum : DS := (dSeq (dDrop (dCall m_need_table (dCons (dVar 0) dNil))) (dSeq (dSet 1 (dCall m_sums_in (dCons (dVar 0) dNil))) (dSeq (dSet 2 (dC .none)) (dSeq (dFor (dItems (dCall m_rectangles_in (dCons (dVar 0) dNil))) (gN 3) l1_greatest_sum [3, 4]) (dRet (dVar 2))))))
def m_greatest_sum : FS := fun ds => if ds.length = 1 then semOf 5 b_greatest_sum ds else none
abbrev s_count_with_sum : Stmt := topS 20
theorem sc_count_with_sum : FnScope ["table", "number", "sums", "one"] ["table", "number"] (defScope s_count_with_sum) := ⟨rfl, rfl, rfl, by decide +kernel, rfl, by decide +kernel, by decide +kernel⟩
def b_count_with_sum : DS := (dSeq (dDrop (dCall m_need_table (dCons (dVar 0) dNil))) (dSeq (dIfS (dNotT (dTruT (dCall m_fits_whole (dCons (dVar 1) (dCons (dBin bMul (dNeg (dC (.int 400))) (dC (.int (1000000)))) (dCons (dBin bMul (dC (.int 400)) (dC (.int (1000000)))) dNil)))))) dNever dNx) (dSeq (dSet 2 (dCall m_sums_in (dCons (dVar 0) dNil))) (dRet (dB1 bLen (dLc (dItems (dCall m_rectangles_in (dCons (dVar 0) dNil))) (gN 3) (dCmpT cEq (dCall m_sum_by (dCons (dVar 2) (dCons (dVar 3) dNil))) (dVar 1)) (dC (.int 1)) [3]))))))
def m_count_with_sum : FS := fun ds => if ds.length = 2 then semOf 4 b_count_with_sum ds else none
abbrev s_row_and_column_sums : Stmt := topS 21
theorem sc_row_and_column_sums : FnScope ["table", "columns", "row", "column"] ["table"] (defScope s_row_and_column_sums) := ⟨rfl, rfl, rfl, by decide +kernel, rfl, by decide +kernel, by decide +kernel⟩
def b_row_and_column_sums : DS := (dSeq (dDrop (dCall m_need_table (dCons (dVar 0) dNil))) (dSeq (dSet 1 (dLc (dRg1 (dB1 bLen (dBin bIx (dVar 0) (dC (.int 0))))) (gN 3) dYes (dB1 bSum (dLc (dItems (dVar 0)) (gN 2) dYes (dBin bIx (dVar 2) (dVar 3)) [2])) [3])) (dRet (dTup (dCons (dB1 bTuple (dLc (dItems (dVar 0)) (gN 2) dYes (dB1 bSum (dVar 2)) [2])) (dCons (dB1 bTuple (dVar 1)) dNil))))))
def m_row_and_column_sums : FS := fun ds => if ds.length = 1 then semOf 4 b_row_and_column_sums ds else none
abbrev s__law_same : Stmt := topS 26
theorem sc__law_same : FnScope ["told", "due", "at"] ["told", "due"] (defScope s__law_same) := ⟨rfl, rfl, rfl, by decide +kernel, rfl, by decide +kernel, by decide +kernel⟩
def b__law_same (sem : FS) : DS := (dSeq (dIfS (dOrT (dTruT (dB1 (bIsi "tuple") (dVar 1))) (dTruT (dB1 (bIsi "list") (dVar 1)))) (dSeq (dIfS (dOrT (dCmpT cNe (dB1 (bIsi "tuple") (dVar 0)) (dB1 (bIsi "tuple") (dVar 1))) (dOrT (dCmpT cNe (dB1 (bIsi "list") (dVar 0)) (dB1 (bIsi "list") (dVar 1))) (dCmpT cNe (dB1 bLen (dVar 0)) (dB1 bLen (dVar 1))))) (dRet (dC (.bool false))) dNx) (dRet (dCmp cEq (dLc (dRg1 (dB1 bLen (dVar 1))) (gN 2) (dNotT (dTruT (dCall sem (dCons (dBin bIx (dVar 0) (dVar 2)) (dCons (dBin bIx (dVar 1) (dVar 2)) dNil))))) (dC (.int 1)) [2]) (dLst dNil)))) dNx) (dSeq (dIfS (dCmpT cIs (dVar 1) (dC .none)) (dRet (dCmp cIs (dVar 0) (dC .none))) dNx) (dSeq (dIfS (dTruT (dB1 (bIsi "bool") (dVar 1))) (dRet (dIf (dTruT (dVar 1)) (dCmp cIs (dVar 0) (dC (.bool true))) (dCmp cIs (dVar 0) (dC (.bool false))))) dNx) (dSeq (dIfS (dTruT (dB1 (bIsi "int") (dVar 1))) (dRet (dAndV (dB1 (bIsi "int") (dVar 0)) (dAndV (dNotV (dB1 (bIsi "bool") (dVar 0))) (dCmp cEq (dB1 bInt (dVar 0)) (dVar 1))))) dNx) (dRet (dAndV (dB1 (bIsi "str") (dVar 0)) (dCmp cEq (dB1 bStr (dVar 0)) (dVar 1))))))))
def m__law_same : Nat → FS
  | 0 => fun _ => none
  | i + 1 => fun ds => if ds.length = 2 then semOf 3 (b__law_same (m__law_same i)) ds else none
abbrev s__law_counts_right : Stmt := topS 30
theorem sc__law_counts_right : FnScope ["table", "rows", "columns", "bound", "every", "number", "line", "counts", "some", "most", "best", "first", "one", "told", "turned", "column"] ["table"] (defScope s__law_counts_right) := ⟨rfl, rfl, rfl, by decide +kernel, rfl, by decide +kernel, by decide +kernel⟩
def l1__law_counts_right : DS := (dSeq (dSet 13 (dLst (dCons (dCall m_count_with_sum (dCons (dCall m__law_each (dCons (dVar 0) (dCons (dNeg (dC (.int 1))) dNil))) (dCons (dNeg (dVar 5)) dNil))) (dCons (dCall m_count_with_sum (dCons (dVar 14) (dCons (dVar 5) dNil))) (dCons (dCall m_count_with_sum (dCons (dCall m__law_each (dCons (dVar 0) (dCons (dC (.int 5)) dNil))) (dCons (dBin bMul (dC (.int 5)) (dVar 5)) dNil))) dNil))))) (dIfS (dNotT (dTruT (dCall (m__law_same 8) (dCons (dBin bAdd (dVar 13) (dLst (dCons (dCall m_count_with_sum (dCons (dB1 bRev (dVar 0)) (dCons (dVar 5) dNil))) dNil))) (dCons (dBin bMul (dLst (dCons (dGet2 (dVar 7) (dVar 5) (dC (.int 0))) dNil)) (dC (.int 4))) dNil))))) (dRet (dC (.bool false))) dNx))
def b__law_counts_right : DS := (dSeq (dPar [1, 2] (dCons (dB1 bLen (dVar 0)) (dCons (dB1 bLen (dBin bIx (dVar 0) (dC (.int 0)))) dNil))) (dSeq (dPar [3, 4] (dCons (dB1 bSum (dLc (dItems (dVar 0)) (gN 6) dYes (dB1 bSum (dLc (dItems (dVar 6)) (gN 5) dYes (dB1 bAbs (dVar 5)) [5])) [6])) (dCons (dCall m__law_rectangles (dCons (dVar 1) (dCons (dVar 2) dNil))) dNil))) (dSeq (dSet 7 (dB1 bDict (dLc (dRg2 (dNeg (dVar 3)) (dBin bAdd (dVar 3) (dC (.int 1)))) (gN 5) dYes (dTup (dCons (dVar 5) (dCons (dCall m_count_with_sum (dCons (dVar 0) (dCons (dVar 5) dNil))) dNil))) [5]))) (dSeq (dSet 8 (dLc (dDict 7 keysD) (gN 5) (dCmpT cGt (dBin bIx (dVar 7) (dVar 5)) (dC (.int 0))) (dVar 5) [5])) (dSeq (dUnp (gTup 2 (gCons (gN 9) (gCons (gN 10) gNil))) (dCall m_greatest_sum (dCons (dVar 0) dNil))) (dSeq (dSet 11 (dBin bIx (dLc (dItems (dVar 4)) (gN 12) (dCmpT cEq (dCall m_sum_of (dCons (dVar 0) (dCons (dVar 12) dNil))) (dVar 9)) (dVar 12) [12]) (dC (.int 0)))) (dSeq (dSet 13 (dLst (dCons (dB1 bSumVals (dVar 7)) (dCons (dVar 9) (dCons (dVar 10) (dCons (dBin bIx (dCall m_greatest_sum (dCons (dCall m__law_each (dCons (dVar 0) (dCons (dNeg (dC (.int 1))) dNil))) dNil)) (dC (.int 0))) (dCons (dCall m_count_with_sum (dCons (dVar 0) (dCons (dBin bAdd (dVar 3) (dC (.int 1))) dNil))) (dCons (dCall m_is_table (dCons (dVar 0) dNil)) dNil)))))))) (dSeq (dIfS (dOrT (dNotT (dTruT (dCall (m__law_same 8) (dCons (dVar 13) (dCons (dLst (dCons (dB1 bLen (dVar 4)) (dCons (dB1 bMax (dVar 8)) (dCons (dVar 11) (dCons (dNeg (dB1 bMin (dVar 8))) (dCons (dC (.int 0)) (dCons (dC (.bool true)) dNil))))))) dNil))))) (dCmpT cNe (dB1 bLen (dVar 4)) (dBin bDiv (dBin bMul (dBin bMul (dBin bMul (dVar 1) (dBin bAdd (dVar 1) (dC (.int 1)))) (dVar 2)) (dBin bAdd (dVar 2) (dC (.int 1)))) (dC (.int 4))))) (dRet (dC (.bool false))) dNx) (dSeq (dSet 14 (dB1 bTuple (dLc (dRg1 (dVar 2)) (gN 15) dYes (dB1 bTuple (dLc (dItems (dVar 0)) (gN 6) dYes (dBin bIx (dVar 6) (dVar 15)) [6])) [15]))) (dSeq (dFor (dItems (dTup (dCons (dB1 bMin (dVar 8)) (dCons (dB1 bMax (dVar 8)) (dCons (dC (.int 0)) (dCons (dC (.int 1)) dNil)))))) (gN 5) l1__law_counts_right [5]) (dRet (dCall (m__law_same 8) (dCons (dLst (dCons (dBin bIx (dCall m_greatest_sum (dCons (dVar 14) dNil)) (dC (.int 0))) (dCons (dCall m_greatest_sum (dCons (dCall m__law_each (dCons (dVar 0) (dCons (dC (.int 5)) dNil))) dNil)) dNil))) (dCons (dLst (dCons (dVar 9) (dCons (dTup (dCons (dBin bMul (dC (.int 5)) (dVar 9)) (dCons (dVar 10) dNil))) dNil))) dNil))))))))))))))
def m__law_counts_right : FS := fun ds => if ds.length = 1 then semOf 16 b__law_counts_right ds else none
abbrev s__law_parts_right : Stmt := topS 31
theorem sc__law_parts_right : FnScope ["cup", "table", "other", "every", "added", "line", "more", "number", "far", "turn", "one", "top", "left", "bottom", "right", "whole", "row", "column", "halves", "sides", "cells", "told", "rows", "columns", "due", "lines", "turned"] ["cup", "table", "other"] (defScope s__law_parts_right) := ⟨rfl, rfl, rfl, by decide +kernel, rfl, by decide +kernel, by decide +kernel⟩
def l1__law_parts_right : DS := (dDrop (dMut "list" 4 (dCons (dB1 bTuple (dLc (dZip (dCons (dVar 5) (dCons (dVar 6) dNil))) (gTup 2 (gCons (gN 7) (gCons (gN 8) gNil))) dYes (dBin bAdd (dVar 7) (dVar 8)) [7, 8])) dNil) mApp))
def l2__law_parts_right : DS := (dSeq (dSet 10 (dCallC m__law_some (dCons (dVar 0) (dCons (dVar 3) dNil)))) (dSeq (dUnp (gTup 4 (gCons (gN 11) (gCons (gN 12) (gCons (gN 13) (gCons (gN 14) gNil))))) (dVar 10)) (dSeq (dPar [15, 16, 17] (dCons (dCall m_sum_of (dCons (dVar 1) (dCons (dVar 10) dNil))) (dCons (dBin bAdd (dVar 11) (dCallC m__law_roll (dCons (dVar 0) (dCons (dBin bAdd (dBin bSub (dVar 13) (dVar 11)) (dC (.int 1))) dNil)))) (dCons (dBin bAdd (dVar 12) (dCallC m__law_roll (dCons (dVar 0) (dCons (dBin bAdd (dBin bSub (dVar 14) (dVar 12)) (dC (.int 1))) dNil)))) dNil)))) (dSeq (dSet 18 (dBin bAdd (dCall m_sum_of (dCons (dVar 1) (dCons (dTup (dCons (dVar 11) (dCons (dVar 12) (dCons (dVar 16) (dCons (dVar 14) dNil))))) dNil))) (dIf (dCmpT cLt (dVar 16) (dVar 13)) (dCall m_sum_of (dCons (dVar 1) (dCons (dTup (dCons (dBin bAdd (dVar 16) (dC (.int 1))) (dCons (dVar 12) (dCons (dVar 13) (dCons (dVar 14) dNil))))) dNil))) (dC (.int 0))))) (dSeq (dSet 19 (dBin bAdd (dCall m_sum_of (dCons (dVar 1) (dCons (dTup (dCons (dVar 11) (dCons (dVar 12) (dCons (dVar 13) (dCons (dVar 17) dNil))))) dNil))) (dIf (dCmpT cLt (dVar 17) (dVar 14)) (dCall m_sum_of (dCons (dVar 1) (dCons (dTup (dCons (dVar 11) (dCons (dBin bAdd (dVar 17) (dC (.int 1))) (dCons (dVar 13) (dCons (dVar 14) dNil))))) dNil))) (dC (.int 0))))) (dSeq (dSet 20 (dB1 bSum (dLc (dItems (dCut (dVar 1) (dPart (dVar 11)) (dPart (dBin bAdd (dVar 13) (dC (.int 1)))))) (gN 5) dYes (dB1 bSum (dCut (dVar 5) (dPart (dVar 12)) (dPart (dBin bAdd (dVar 14) (dC (.int 1)))))) [5]))) (dSeq (dSet 21 (dLst (dCons (dVar 18) (dCons (dVar 19) (dCons (dCall m_sum_of (dCons (dB1 bTuple (dVar 4)) (dCons (dVar 10) dNil))) (dCons (dCall m_sum_of (dCons (dVar 1) (dCons (dTup (dCons (dVar 16) (dCons (dVar 17) (dCons (dVar 16) (dCons (dVar 17) dNil))))) dNil))) dNil)))))) (dIfS (dOrT (dNotT (dTruT (dCall (m__law_same 8) (dCons (dVar 21) (dCons (dLst (dCons (dVar 15) (dCons (dVar 15) (dCons (dBin bAdd (dVar 15) (dCall m_sum_of (dCons (dVar 2) (dCons (dVar 10) dNil)))) (dCons (dBin bIx (dBin bIx (dVar 1) (dVar 16)) (dVar 17)) dNil))))) dNil))))) (dOrT (dCmpT cNe (dVar 15) (dVar 20)) (dCmpT cGt (dVar 15) (dBin bIx (dCall m_greatest_sum (dCons (dVar 1) dNil)) (dC (.int 0)))))) (dRet (dC (.bool false))) dNx))))))))
def b__law_parts_right : DS := (dSeq (dPar [3, 4] (dCons (dCall m__law_rectangles (dCons (dB1 bLen (dVar 1)) (dCons (dB1 bLen (dBin bIx (dVar 1) (dC (.int 0)))) dNil))) (dCons (dLst dNil) dNil))) (dSeq (dFor (dZip (dCons (dVar 1) (dCons (dVar 2) dNil))) (gTup 2 (gCons (gN 5) (gCons (gN 6) gNil))) l1__law_parts_right [5, 6, 7, 8]) (dSeq (dFor (dRg1 (dC (.int 6))) (gN 9) l2__law_parts_right [5, 9, 10, 11, 12, 13, 14, 15, 16, 17, 18, 19, 20, 21]) (dSeq (dUnp (gTup 2 (gCons (gN 22) (gCons (gN 23) gNil))) (dCall m_row_and_column_sums (dCons (dVar 1) dNil))) (dSeq (dSet 24 (dCall m_sum_of (dCons (dVar 1) (dCons (dTup (dCons (dC (.int 0)) (dCons (dC (.int 0)) (dCons (dBin bSub (dB1 bLen (dVar 1)) (dC (.int 1))) (dCons (dBin bSub (dB1 bLen (dBin bIx (dVar 1) (dC (.int 0)))) (dC (.int 1))) dNil))))) dNil)))) (dSeq (dSet 25 (dB1 bTuple (dLc (dRg1 (dB1 bLen (dVar 1))) (gN 16) dYes (dCall m_sum_of (dCons (dVar 1) (dCons (dTup (dCons (dVar 16) (dCons (dC (.int 0)) (dCons (dVar 16) (dCons (dBin bSub (dB1 bLen (dBin bIx (dVar 1) (dC (.int 0)))) (dC (.int 1))) dNil))))) dNil))) [16]))) (dSeq (dSet 26 (dB1 bTuple (dLc (dRg1 (dB1 bLen (dBin bIx (dVar 1) (dC (.int 0))))) (gN 17) dYes (dB1 bTuple (dLc (dItems (dVar 1)) (gN 5) dYes (dBin bIx (dVar 5) (dVar 17)) [5])) [17]))) (dRet (dCall (m__law_same 8) (dCons (dLst (dCons (dB1 bSum (dVar 22)) (dCons (dB1 bSum (dVar 23)) (dCons (dVar 22) (dCons (dCall m_row_and_column_sums (dCons (dVar 26) dNil)) dNil))))) (dCons (dLst (dCons (dVar 24) (dCons (dVar 24) (dCons (dVar 25) (dCons (dTup (dCons (dVar 23) (dCons (dVar 22) dNil))) dNil))))) dNil)))))))))))
def m__law_parts_right : FC := fun cd ds => if ds.length + 1 = 3 then semC 27 b__law_parts_right cd ds else none
abbrev s__law_alike_right : Stmt := topS 32
theorem sc__law_alike_right : FnScope ["rows", "columns", "number", "table", "many", "due", "high", "wide", "most"] ["rows", "columns", "number"] (defScope s__law_alike_right) := ⟨rfl, rfl, rfl, by decide +kernel, rfl, by decide +kernel, by decide +kernel⟩
def l1__law_alike_right : DS := (dSeq (dSet 7 (dBin bDiv (dVar 4) (dVar 6))) (dIfS (dAndT (dCmpT cEq (dBin bMul (dVar 7) (dVar 6)) (dVar 4)) (dCmpT cLe (dVar 7) (dVar 1))) (dSet 5 (dBin bAdd (dVar 5) (dBin bMul (dBin bAdd (dBin bSub (dVar 0) (dVar 6)) (dC (.int 1))) (dBin bAdd (dBin bSub (dVar 1) (dVar 7)) (dC (.int 1)))))) dNx))
def l2__law_alike_right : DS := (dSeq (dSet 5 (dC (.int 0))) (dSeq (dFor (dRg2 (dC (.int 1)) (dBin bAdd (dVar 0) (dC (.int 1)))) (gN 6) l1__law_alike_right [6, 7]) (dIfS (dNotT (dTruT (dCall (m__law_same 8) (dCons (dCall m_count_with_sum (dCons (dVar 3) (dCons (dBin bMul (dVar 4) (dVar 2)) dNil))) (dCons (dVar 5) dNil))))) (dRet (dC (.bool false))) dNx)))
def b__law_alike_right : DS := (dSeq (dSet 3 (dBin bMul (dTup (dCons (dBin bMul (dTup (dCons (dVar 2) dNil)) (dVar 1)) dNil)) (dVar 0))) (dSeq (dFor (dItems (dTup (dCons (dC (.int 1)) (dCons (dC (.int 2)) (dCons (dC (.int 4)) (dCons (dC (.int 6)) (dCons (dBin bMul (dVar 0) (dVar 1)) dNil))))))) (gN 4) l2__law_alike_right [4, 5, 6, 7]) (dSeq (dSet 8 (dIf (dCmpT cGt (dVar 2) (dC (.int 0))) (dTup (dCons (dBin bMul (dBin bMul (dVar 0) (dVar 1)) (dVar 2)) (dCons (dTup (dCons (dC (.int 0)) (dCons (dC (.int 0)) (dCons (dBin bSub (dVar 0) (dC (.int 1))) (dCons (dBin bSub (dVar 1) (dC (.int 1))) dNil))))) dNil))) (dTup (dCons (dVar 2) (dCons (dTup (dCons (dC (.int 0)) (dCons (dC (.int 0)) (dCons (dC (.int 0)) (dCons (dC (.int 0)) dNil))))) dNil))))) (dRet (dCall (m__law_same 8) (dCons (dCall m_greatest_sum (dCons (dVar 3) dNil)) (dCons (dVar 8) dNil)))))))
def m__law_alike_right : FS := fun ds => if ds.length = 3 then semOf 9 b__law_alike_right ds else none
abbrev s_law : Stmt := topS 33
theorem sc_law : FnScope ["script", "cup", "turn", "rows", "columns", "table", "other"] ["script"] (defScope s_law) := ⟨rfl, rfl, rfl, by decide +kernel, rfl, by decide +kernel, by decide +kernel⟩
def l1_law : DS := (dSeq (dPar [3, 4] (dCons (dBin bAdd (dC (.int 1)) (dCallC m__law_roll (dCons (dVar 1) (dCons (dC (.int 4)) dNil)))) (dCons (dBin bAdd (dC (.int 1)) (dCallC m__law_roll (dCons (dVar 1) (dCons (dC (.int 5)) dNil)))) dNil))) (dSeq (dPar [5, 6] (dCons (dCallC m__law_table (dCons (dVar 1) (dCons (dVar 3) (dCons (dVar 4) dNil)))) (dCons (dCallC m__law_table (dCons (dVar 1) (dCons (dVar 3) (dCons (dVar 4) dNil)))) dNil))) (dSeq (dIfS (dOrT (dNotT (dTruT (dCall m__law_counts_right (dCons (dVar 5) dNil)))) (dNotT (dTruT (dCallC m__law_parts_right (dCons (dVar 1) (dCons (dVar 5) (dCons (dVar 6) dNil))))))) (dRet (dC (.bool false))) dNx) (dIfS (dNotT (dTruT (dCall m__law_alike_right (dCons (dVar 3) (dCons (dVar 4) (dCons (dCallC m__law_some (dCons (dVar 1) (dCons (dLst (dCons (dC (.int 1)) (dCons (dNeg (dC (.int 1))) (dCons (dC (.int 7)) (dCons (dNeg (dC (.int 3))) dNil))))) dNil))) dNil)))))) (dRet (dC (.bool false))) dNx))))
def b_law : DS := (dSeq (dFor (dRg1 (dC (.int 6))) (gN 2) l1_law [2, 3, 4, 5, 6]) (dRet (dC (.bool true))))
/-! ### what the top has written -/
structure Txt (K : PySem.W.Frag) (mg : Str → Option Value) where
  f_fits_whole : Addr
  fd_fits_whole : FuncData
  F_fits_whole : Fun K "fits_whole" "fits_whole" s_fits_whole f_fits_whole fd_fits_whole
  b_fits_whole : L2.Binds K fd_fits_whole ["value", "low", "high"] []
  g_fits_whole : mg "fits_whole" = some (.ref f_fits_whole)
  f_is_tuple_of : Addr
  fd_is_tuple_of : FuncData
  F_is_tuple_of : Fun K "is_tuple_of" "is_tuple_of" s_is_tuple_of f_is_tuple_of fd_is_tuple_of
  b_is_tuple_of : L2.Binds K fd_is_tuple_of ["value", "least", "most"] []
  g_is_tuple_of : mg "is_tuple_of" = some (.ref f_is_tuple_of)
  f_sums_in : Addr
  fd_sums_in : FuncData
  F_sums_in : Fun K "sums_in" "sums_in" s_sums_in f_sums_in fd_sums_in
  b_sums_in : L2.Binds K fd_sums_in ["table"] []
  g_sums_in : mg "sums_in" = some (.ref f_sums_in)
  f_sum_by : Addr
  fd_sum_by : FuncData
  F_sum_by : Fun K "sum_by" "sum_by" s_sum_by f_sum_by fd_sum_by
  b_sum_by : L2.Binds K fd_sum_by ["sums", "one"] []
  g_sum_by : mg "sum_by" = some (.ref f_sum_by)
  f_rectangles_in : Addr
  fd_rectangles_in : FuncData
  F_rectangles_in : Fun K "rectangles_in" "rectangles_in" s_rectangles_in f_rectangles_in fd_rectangles_in
  b_rectangles_in : L2.Binds K fd_rectangles_in ["table"] []
  g_rectangles_in : mg "rectangles_in" = some (.ref f_rectangles_in)
  f__law_cup : Addr
  fd__law_cup : FuncData
  F__law_cup : Fun K "_law_cup" "_law_cup" s__law_cup f__law_cup fd__law_cup
  b__law_cup : L2.Binds K fd__law_cup ["script"] []
  g__law_cup : mg "_law_cup" = some (.ref f__law_cup)
  f__law_roll : Addr
  fd__law_roll : FuncData
  F__law_roll : Fun K "_law_roll" "_law_roll" s__law_roll f__law_roll fd__law_roll
  b__law_roll : L2.Binds K fd__law_roll ["cup", "many"] []
  g__law_roll : mg "_law_roll" = some (.ref f__law_roll)
  f__law_rectangles : Addr
  fd__law_rectangles : FuncData
  F__law_rectangles : Fun K "_law_rectangles" "_law_rectangles" s__law_rectangles f__law_rectangles fd__law_rectangles
  b__law_rectangles : L2.Binds K fd__law_rectangles ["rows", "columns"] []
  g__law_rectangles : mg "_law_rectangles" = some (.ref f__law_rectangles)
  f__law_each : Addr
  fd__law_each : FuncData
  F__law_each : Fun K "_law_each" "_law_each" s__law_each f__law_each fd__law_each
  b__law_each : L2.Binds K fd__law_each ["table", "times"] []
  g__law_each : mg "_law_each" = some (.ref f__law_each)
  f_fits_table : Addr
  fd_fits_table : FuncData
  F_fits_table : Fun K "fits_table" "fits_table" s_fits_table f_fits_table fd_fits_table
  b_fits_table : L2.Binds K fd_fits_table ["value", "low"] []
  g_fits_table : mg "fits_table" = some (.ref f_fits_table)
  f_fits_place : Addr
  fd_fits_place : FuncData
  F_fits_place : Fun K "fits_place" "fits_place" s_fits_place f_fits_place fd_fits_place
  b_fits_place : L2.Binds K fd_fits_place ["table", "value"] []
  g_fits_place : mg "fits_place" = some (.ref f_fits_place)
  f__law_some : Addr
  fd__law_some : FuncData
  F__law_some : Fun K "_law_some" "_law_some" s__law_some f__law_some fd__law_some
  b__law_some : L2.Binds K fd__law_some ["cup", "things"] []
  g__law_some : mg "_law_some" = some (.ref f__law_some)
  f_need_table : Addr
  fd_need_table : FuncData
  F_need_table : Fun K "need_table" "need_table" s_need_table f_need_table fd_need_table
  b_need_table : L2.Binds K fd_need_table ["table"] []
  g_need_table : mg "need_table" = some (.ref f_need_table)
  f_fits_rectangle : Addr
  fd_fits_rectangle : FuncData
  F_fits_rectangle : Fun K "fits_rectangle" "fits_rectangle" s_fits_rectangle f_fits_rectangle fd_fits_rectangle
  b_fits_rectangle : L2.Binds K fd_fits_rectangle ["table", "value"] []
  g_fits_rectangle : mg "fits_rectangle" = some (.ref f_fits_rectangle)
  f_is_table : Addr
  fd_is_table : FuncData
  F_is_table : Fun K "is_table" "is_table" s_is_table f_is_table fd_is_table
  b_is_table : L2.Binds K fd_is_table ["value"] []
  g_is_table : mg "is_table" = some (.ref f_is_table)
  f__law_table : Addr
  fd__law_table : FuncData
  F__law_table : Fun K "_law_table" "_law_table" s__law_table f__law_table fd__law_table
  b__law_table : L2.Binds K fd__law_table ["cup", "rows", "columns"] []
  g__law_table : mg "_law_table" = some (.ref f__law_table)
  f_sum_of : Addr
  fd_sum_of : FuncData
  F_sum_of : Fun K "sum_of" "sum_of" s_sum_of f_sum_of fd_sum_of
  b_sum_of : L2.Binds K fd_sum_of ["table", "rectangle"] []
  g_sum_of : mg "sum_of" = some (.ref f_sum_of)
  f_greatest_sum : Addr
  fd_greatest_sum : FuncData
  F_greatest_sum : Fun K "greatest_sum" "greatest_sum" s_greatest_sum f_greatest_sum fd_greatest_sum
  b_greatest_sum : L2.Binds K fd_greatest_sum ["table"] []
  g_greatest_sum : mg "greatest_sum" = some (.ref f_greatest_sum)
  f_count_with_sum : Addr
  fd_count_with_sum : FuncData
  F_count_with_sum : Fun K "count_with_sum" "count_with_sum" s_count_with_sum f_count_with_sum fd_count_with_sum
  b_count_with_sum : L2.Binds K fd_count_with_sum ["table", "number"] []
  g_count_with_sum : mg "count_with_sum" = some (.ref f_count_with_sum)
  f_row_and_column_sums : Addr
  fd_row_and_column_sums : FuncData
  F_row_and_column_sums : Fun K "row_and_column_sums" "row_and_column_sums" s_row_and_column_sums f_row_and_column_sums fd_row_and_column_sums
  b_row_and_column_sums : L2.Binds K fd_row_and_column_sums ["table"] []
  g_row_and_column_sums : mg "row_and_column_sums" = some (.ref f_row_and_column_sums)
  f__law_same : Addr
  fd__law_same : FuncData
  F__law_same : Fun K "_law_same" "_law_same" s__law_same f__law_same fd__law_same
  b__law_same : L2.Binds K fd__law_same ["told", "due"] []
  g__law_same : mg "_law_same" = some (.ref f__law_same)
  f__law_counts_right : Addr
  fd__law_counts_right : FuncData
  F__law_counts_right : Fun K "_law_counts_right" "_law_counts_right" s__law_counts_right f__law_counts_right fd__law_counts_right
  b__law_counts_right : L2.Binds K fd__law_counts_right ["table"] []
  g__law_counts_right : mg "_law_counts_right" = some (.ref f__law_counts_right)
  f__law_parts_right : Addr
  fd__law_parts_right : FuncData
  F__law_parts_right : Fun K "_law_parts_right" "_law_parts_right" s__law_parts_right f__law_parts_right fd__law_parts_right
  b__law_parts_right : L2.Binds K fd__law_parts_right ["cup", "table", "other"] []
  g__law_parts_right : mg "_law_parts_right" = some (.ref f__law_parts_right)
  f__law_alike_right : Addr
  fd__law_alike_right : FuncData
  F__law_alike_right : Fun K "_law_alike_right" "_law_alike_right" s__law_alike_right f__law_alike_right fd__law_alike_right
  b__law_alike_right : L2.Binds K fd__law_alike_right ["rows", "columns", "number"] []
  g__law_alike_right : mg "_law_alike_right" = some (.ref f__law_alike_right)
  f_law : Addr
  fd_law : FuncData
  F_law : Fun K "law" "law" s_law f_law fd_law
  b_law : L2.Binds K fd_law ["script"] []
  g_law : mg "law" = some (.ref f_law)
  z_abs : mg "abs" = none
  z_all : mg "all" = none
  z_bool : mg "bool" = none
  z_dict : mg "dict" = none
  z_enumerate : mg "enumerate" = none
  z_int : mg "int" = none
  z_isinstance : mg "isinstance" = none
  z_len : mg "len" = none
  z_list : mg "list" = none
  z_max : mg "max" = none
  z_min : mg "min" = none
  z_range : mg "range" = none
  z_str : mg "str" = none
  z_sum : mg "sum" = none
  z_tuple : mg "tuple" = none
  z_zip : mg "zip" = none
  t_GREATEST : Tok
  g_GREATEST : mg "GREATEST" = some (.int (1000000) t_GREATEST)
  t_SIDE : Tok
  g_SIDE : mg "SIDE" = some (.int (20) t_SIDE)
section
variable {P : Program} {w : World} {K : PySem.W.Frag} {mg : Str → Option Value} {base : Heap}
theorem ok_fits_whole (T : Txt K mg) : FnOk P w K mg base CX0 1 T.f_fits_whole T.fd_fits_whole ["value", "low", "high"] (spD K m_fits_whole) := by
  refine fnD (k := 0) T.F_fits_whole sc_fits_whole b_fits_whole (fun cdv A outer s H E hr => ?_) m_fits_whole (fun ds hl x h => ?_) (fun ds x h => ?_)
  · exact (pssd_one (psd_ret (ped_and (ped_isi (by rfl) T.z_isinstance (by rfl) T.z_int (by decide +kernel) (by decide) (pd_var 0 (pv 0))) (ped_and (ped_not (ped_isi (by rfl) T.z_isinstance (by rfl) T.z_bool (by decide +kernel) (by decide) (pd_var 0 (pv 0)))) (ped_one (pd_chain c2_le c2_le (pd_var 1 (pv 1)) (pd_var 0 (pv 0)) (pd_var 2 (pv 2))))))))
  · have h2 : _ = some x := (if_pos (show ds.length = 3 from hl)).symm.trans h; exact h2
  · unfold m_fits_whole at h; split at h; · assumption
    · cases h
theorem ok_is_tuple_of (T : Txt K mg) : FnOk P w K mg base CX0 1 T.f_is_tuple_of T.fd_is_tuple_of ["value", "least", "most"] (spD K m_is_tuple_of) := by
  refine fnD (k := 0) T.F_is_tuple_of sc_is_tuple_of b_is_tuple_of (fun cdv A outer s H E hr => ?_) m_is_tuple_of (fun ds hl x h => ?_) (fun ds x h => ?_)
  · exact (pssd_one (psd_ret (ped_and (ped_isi (by rfl) T.z_isinstance (by rfl) T.z_tuple (by decide +kernel) (by decide) (pd_var 0 (pv 0))) (ped_one (pd_chain c2_le c2_le (pd_var 1 (pv 1)) (ped_b1 b1_len (by rfl) T.z_len (by decide +kernel) (pd_var 0 (pv 0))) (pd_var 2 (pv 2)))))))
  · have h2 : _ = some x := (if_pos (show ds.length = 3 from hl)).symm.trans h; exact h2
  · unfold m_is_tuple_of at h; split at h; · assumption
    · cases h
theorem ok_sums_in (T : Txt K mg) : FnOk P w K mg base CX0 1 T.f_sums_in T.fd_sums_in ["table"] (spD K m_sums_in) := by
  refine fnD (k := 0) T.F_sums_in sc_sums_in b_sums_in (fun cdv A outer s H E hr => ?_) m_sums_in (fun ds hl x h => ?_) (fun ds x h => ?_)
  · exact (pssd_cons (psd_set (i := 1) sc_sums_in.nd (by rfl) (by first | exact .inl rfl | exact .inr rfl) (ped_lst (pad_cons (pd_bin f2_mul (ped_lst (pad_cons pd_int pad_nil)) (pd_bin f2_add (ped_b1 b1_len (by rfl) T.z_len (by decide +kernel) (ped_ix (hu_of hr) (pd_var 0 (pv 0)) pd_int)) pd_int)) pad_nil))) (pssd_cons (psd_for PassesOwn.never (by rfl) (pid_seq (pd_var 0 (pv 0))) (pgd_name (pgn sc_sums_in.nd 2)) (fb := l2_sums_in) (pssd_cons (psd_par2 (i := 3) (j := 4) (by rfl) sc_sums_in.nd (by rfl) (by rfl) (by decide) (by rfl) (by rfl) (pad_cons (ped_lst (pad_cons pd_int pad_nil)) (pad_cons (ped_ix (hu_of hr) (pd_var 1 (pv 1)) (ped_neg pd_int)) pad_nil))) (pssd_cons (psd_for PassesOwn.never (by rfl) (pid_enum (by rfl) T.z_enumerate (pd_var 2 (pv 2))) (pgd_tup (by rfl) (pgsd_cons (pgd_name (pgn sc_sums_in.nd 5)) (pgsd_cons (pgd_name (pgn sc_sums_in.nd 6)) pgsd_nil))) (fb := l1_sums_in) (pssd_one (psd_expr (ped_append 3 (pv 3) (pd_bin f2_sub (pd_bin f2_add (pd_bin f2_add (ped_ix (hu_of hr) (pd_var 3 (pv 3)) (ped_neg pd_int)) (pd_var 6 (pv 6))) (ped_ix (hu_of hr) (pd_var 4 (pv 4)) (pd_bin f2_add (pd_var 5 (pv 5)) pd_int))) (ped_ix (hu_of hr) (pd_var 4 (pv 4)) (pd_var 5 (pv 5))))))) [5, 6]) (pssd_one (psd_expr (ped_append 1 (pv 1) (pd_var 3 (pv 3))))))) [2, 3, 4, 5, 6]) (pssd_one (psd_ret (pd_var 1 (pv 1))))))
  · have h2 : _ = some x := (if_pos (show ds.length = 1 from hl)).symm.trans h; exact h2
  · unfold m_sums_in at h; split at h; · assumption
    · cases h
theorem ok_sum_by (T : Txt K mg) : FnOk P w K mg base CX0 1 T.f_sum_by T.fd_sum_by ["sums", "one"] (spD K m_sum_by) := by
  refine fnD (k := 0) T.F_sum_by sc_sum_by b_sum_by (fun cdv A outer s H E hr => ?_) m_sum_by (fun ds hl x h => ?_) (fun ds x h => ?_)
  · exact (pssd_cons (psd_unp (pd_var 1 (pv 1)) (pgd_tup (by rfl) (pgsd_cons (pgd_name (pgn sc_sum_by.nd 2)) (pgsd_cons (pgd_name (pgn sc_sum_by.nd 3)) (pgsd_cons (pgd_name (pgn sc_sum_by.nd 4)) (pgsd_cons (pgd_name (pgn sc_sum_by.nd 5)) pgsd_nil)))))) (pssd_one (psd_ret (pd_bin f2_add (pd_bin f2_sub (pd_bin f2_sub (ped_ix (hu_of hr) (ped_ix (hu_of hr) (pd_var 0 (pv 0)) (pd_bin f2_add (pd_var 4 (pv 4)) pd_int)) (pd_bin f2_add (pd_var 5 (pv 5)) pd_int)) (ped_ix (hu_of hr) (ped_ix (hu_of hr) (pd_var 0 (pv 0)) (pd_var 2 (pv 2))) (pd_bin f2_add (pd_var 5 (pv 5)) pd_int))) (ped_ix (hu_of hr) (ped_ix (hu_of hr) (pd_var 0 (pv 0)) (pd_bin f2_add (pd_var 4 (pv 4)) pd_int)) (pd_var 3 (pv 3)))) (ped_ix (hu_of hr) (ped_ix (hu_of hr) (pd_var 0 (pv 0)) (pd_var 2 (pv 2))) (pd_var 3 (pv 3)))))))
  · have h2 : _ = some x := (if_pos (show ds.length = 2 from hl)).symm.trans h; exact h2
  · unfold m_sum_by at h; split at h; · assumption
    · cases h
theorem ok_rectangles_in (T : Txt K mg) : FnOk P w K mg base CX0 1 T.f_rectangles_in T.fd_rectangles_in ["table"] (spD K m_rectangles_in) := by
  refine fnD (k := 0) T.F_rectangles_in sc_rectangles_in b_rectangles_in (fun cdv A outer s H E hr => ?_) m_rectangles_in (fun ds hl x h => ?_) (fun ds x h => ?_)
  · exact (pssd_cons (psd_par3 (i := 1) (j := 2) (l := 3) (by rfl) sc_rectangles_in.nd (by rfl) (by rfl) (by rfl) (by decide) (by decide) (by decide) (by rfl) (by rfl) (by rfl) (pad_cons (ped_b1 b1_len (by rfl) T.z_len (by decide +kernel) (pd_var 0 (pv 0))) (pad_cons (ped_b1 b1_len (by rfl) T.z_len (by decide +kernel) (ped_ix (hu_of hr) (pd_var 0 (pv 0)) pd_int)) (pad_cons (ped_lst pad_nil) pad_nil)))) (pssd_cons (psd_for PassesOwn.never (by rfl) (PD.pid_range1 (by rfl) T.z_range (pd_var 1 (pv 1))) (pgd_name (pgn sc_rectangles_in.nd 4)) (fb := l3_rectangles_in) (pssd_one (psd_for PassesOwn.never (by rfl) (PD.pid_range1 (by rfl) T.z_range (pd_var 2 (pv 2))) (pgd_name (pgn sc_rectangles_in.nd 5)) (fb := l2_rectangles_in) (pssd_one (psd_for PassesOwn.never (by rfl) (PD.pid_range2 (by rfl) T.z_range (pd_var 4 (pv 4)) (pd_var 1 (pv 1))) (pgd_name (pgn sc_rectangles_in.nd 6)) (fb := l1_rectangles_in) (pssd_one (psd_augL (i := 3) sc_rectangles_in.nd (by rfl) (by first | exact .inl rfl | exact .inr rfl) (ped_lc (own := [("right", 7)]) (by rfl) sc_rectangles_in.nd (PD.pid_range2 (by rfl) T.z_range (pd_var 5 (pv 5)) (pd_var 2 (pv 2))) (blkOk_by (by kernel_rfl)) (fun _ _ _ _ _ => (pgd_name (pgn sc_rectangles_in.nd 7))) (fun _ _ _ _ _ => ptsd_nil) (fun _ _ _ _ _ => (ped_tup (pad_cons (pd_var 4 (pv 4)) (pad_cons (pd_var 5 (pv 5)) (pad_cons (pd_var 6 (pv 6)) (pad_cons (pd_var 7 (pv 7)) pad_nil))))))))) [6, 7])) [5, 6, 7])) [4, 5, 6, 7]) (pssd_one (psd_ret (pd_var 3 (pv 3))))))
  · have h2 : _ = some x := (if_pos (show ds.length = 1 from hl)).symm.trans h; exact h2
  · unfold m_rectangles_in at h; split at h; · assumption
    · cases h
theorem ok__law_cup (T : Txt K mg) (hs : ∀ c : Int, 0 ≤ c → ∃ x y ρ, b__law_cup (En.only 2 1 (.sh (.int c))) = some (.rt (.fr (.list [.int x, .int y])) ρ) ∧ 0 ≤ x ∧ 0 ≤ y ∧ y < 10000000000) : FnOk P w K mg base CX0 1 T.f__law_cup T.fd__law_cup ["script"] (spCup K) :=
  cup_fn (k := 0) T.F__law_cup sc__law_cup rfl b__law_cup _ _ rfl (fun cdv A outer s H E hr => ⟨ps_set (i := 1) sc__law_cup.nd (by rfl) (.inl rfl) (pe_first (by rfl) (by rfl) T.z_abs T.z_list (pv 0)), (pssd_one (psd_ret (ped_lst (pad_cons (ped_if (PD.pt_cmp c2_ge (pd_var 1 (pv 1)) (pd_bin f2_pow pd_int pd_int) (by rfl)) (pd_bin f2_div (pd_var 1 (pv 1)) pd_int) pd_int) (pad_cons (pd_bin f2_add (pd_bin f2_mod (ped_t1 b1_int (by rfl) T.z_int (by decide +kernel) (pd_bin f2_add (pd_bin f2_mul (pd_var 1 (pv 1)) pd_int) pd_int)) pd_int) pd_int) pad_nil)))))⟩) hs
theorem ok__law_roll (T : Txt K mg) : FnOk P w K mg base CX0 1 T.f__law_roll T.fd__law_roll ["cup", "many"] (spC K m__law_roll) := by
  refine fnC (k := 0) T.F__law_roll sc__law_roll b__law_roll (by decide) (fun cdv A outer s H E hr => ?_) m__law_roll (fun cd ds hl x h => ?_) (fun cd ds x h => ?_)
  · exact (pssd_cons (psd_if (PD.pt_cmp c2_gt (ped_ix (hu_of hr) (pd_var 0 (pv 0)) pd_int) pd_int (by rfl)) (pssd_cons (psd_set (i := 2) sc__law_roll.nd (by rfl) (by first | exact .inl rfl | exact .inr rfl) (pd_bin f2_mod (ped_t1 b1_int (by rfl) T.z_int (by decide +kernel) (ped_ix (hu_of hr) (pd_var 0 (pv 0)) pd_int)) (pd_var 1 (pv 1)))) (pssd_cons (psd_stIx (hu_of hr) 0 (pv 0) (pd_bin f2_div (ped_ix (hu_of hr) (pd_var 0 (pv 0)) pd_int) (pd_var 1 (pv 1))) pd_int) (pssd_one (psd_ret (pd_var 2 (pv 2)))))) pssd_nil) (pssd_cons (psd_stIx (hu_of hr) 0 (pv 0) (pd_bin f2_mod (ped_t1 b1_int (by rfl) T.z_int (by decide +kernel) (pd_bin f2_add (pd_bin f2_mul (ped_ix (hu_of hr) (pd_var 0 (pv 0)) pd_int) pd_int) pd_int)) pd_int) pd_int) (pssd_cons (psd_set (i := 3) sc__law_roll.nd (by rfl) (by first | exact .inl rfl | exact .inr rfl) (pd_bin f2_mod (ped_t1 b1_int (by rfl) T.z_int (by decide +kernel) (pd_bin f2_mul (ped_ix (hu_of hr) (pd_var 0 (pv 0)) pd_int) (pd_bin f2_add (ped_ix (hu_of hr) (pd_var 0 (pv 0)) pd_int) pd_int))) pd_int)) (pssd_one (psd_ret (pd_bin f2_mod (ped_t1 b1_int (by rfl) T.z_int (by decide +kernel) (pd_bin f2_div (pd_var 3 (pv 3)) pd_int)) (pd_var 1 (pv 1))))))))
  · have h2 : _ = some x := (if_pos (show ds.length + 1 = 2 from hl)).symm.trans h; exact h2
  · unfold m__law_roll at h; split at h; · assumption
    · cases h
theorem ok__law_rectangles (T : Txt K mg) : FnOk P w K mg base CX0 1 T.f__law_rectangles T.fd__law_rectangles ["rows", "columns"] (spD K m__law_rectangles) := by
  refine fnD (k := 0) T.F__law_rectangles sc__law_rectangles b__law_rectangles (fun cdv A outer s H E hr => ?_) m__law_rectangles (fun ds hl x h => ?_) (fun ds x h => ?_)
  · exact (pssd_cons (psd_set (i := 2) sc__law_rectangles.nd (by rfl) (by first | exact .inl rfl | exact .inr rfl) (ped_lst pad_nil)) (pssd_cons (psd_for PassesOwn.never (by rfl) (PD.pid_range1 (by rfl) T.z_range (pd_var 0 (pv 0))) (pgd_name (pgn sc__law_rectangles.nd 3)) (fb := l3__law_rectangles) (pssd_one (psd_for PassesOwn.never (by rfl) (PD.pid_range1 (by rfl) T.z_range (pd_var 1 (pv 1))) (pgd_name (pgn sc__law_rectangles.nd 4)) (fb := l2__law_rectangles) (pssd_one (psd_for PassesOwn.never (by rfl) (PD.pid_range2 (by rfl) T.z_range (pd_var 3 (pv 3)) (pd_var 0 (pv 0))) (pgd_name (pgn sc__law_rectangles.nd 5)) (fb := l1__law_rectangles) (pssd_one (psd_set (i := 2) sc__law_rectangles.nd (by rfl) (by first | exact .inl rfl | exact .inr rfl) (pd_bin f2_add (pd_var 2 (pv 2)) (ped_lc (own := [("right", 6)]) (by rfl) sc__law_rectangles.nd (PD.pid_range2 (by rfl) T.z_range (pd_var 4 (pv 4)) (pd_var 1 (pv 1))) (blkOk_by (by kernel_rfl)) (fun _ _ _ _ _ => (pgd_name (pgn sc__law_rectangles.nd 6))) (fun _ _ _ _ _ => ptsd_nil) (fun _ _ _ _ _ => (ped_tup (pad_cons (pd_var 3 (pv 3)) (pad_cons (pd_var 4 (pv 4)) (pad_cons (pd_var 5 (pv 5)) (pad_cons (pd_var 6 (pv 6)) pad_nil)))))))))) [5, 6])) [4, 5, 6])) [3, 4, 5, 6]) (pssd_one (psd_ret (pd_var 2 (pv 2))))))
  · have h2 : _ = some x := (if_pos (show ds.length = 2 from hl)).symm.trans h; exact h2
  · unfold m__law_rectangles at h; split at h; · assumption
    · cases h
theorem ok__law_each (T : Txt K mg) : FnOk P w K mg base CX0 1 T.f__law_each T.fd__law_each ["table", "times"] (spD K m__law_each) := by
  refine fnD (k := 0) T.F__law_each sc__law_each b__law_each (fun cdv A outer s H E hr => ?_) m__law_each (fun ds hl x h => ?_) (fun ds x h => ?_)
  · exact (pssd_one (psd_ret (ped_t1 b1_tuple (by rfl) T.z_tuple (by decide +kernel) (ped_lc (own := [("line", 3)]) (by rfl) sc__law_each.nd (pid_seq (pd_var 0 (pv 0))) (blkOk_by (by kernel_rfl)) (fun _ _ _ _ _ => (pgd_name (pgn sc__law_each.nd 3))) (fun _ _ _ _ _ => ptsd_nil) (fun _ _ _ _ _ => (ped_t1 b1_tuple (by rfl) T.z_tuple (by decide +kernel) (ped_lc (own := [("number", 2)]) (by rfl) sc__law_each.nd (pid_seq (pd_var 3 (pv 3))) (blkOk_by (by kernel_rfl)) (fun _ _ _ _ _ => (pgd_name (pgn sc__law_each.nd 2))) (fun _ _ _ _ _ => ptsd_nil) (fun _ _ _ _ _ => (pd_bin f2_mul (pd_var 1 (pv 1)) (pd_var 2 (pv 2)))))))))))
  · have h2 : _ = some x := (if_pos (show ds.length = 2 from hl)).symm.trans h; exact h2
  · unfold m__law_each at h; split at h; · assumption
    · cases h
theorem ok_fits_table (T : Txt K mg) : FnOk P w K mg base CX0 2 T.f_fits_table T.fd_fits_table ["value", "low"] (spD K m_fits_table) := by
  refine fnD (k := 1) T.F_fits_table sc_fits_table b_fits_table (fun cdv A outer s H E hr => ?_) m_fits_table (fun ds hl x h => ?_) (fun ds x h => ?_)
  · exact (pssd_cons (psd_if (PWD.pt (pwd_or (ptd_not (pt_tru (ped_call (ok_is_tuple_of T) (hr.mono (by decide)) (by rfl) T.g_is_tuple_of T.F_is_tuple_of.kp T.b_is_tuple_of (pad_cons (pd_var 0 (pv 0)) (pad_cons pd_int (pad_cons (pd_gint (by rfl) T.g_SIDE) pad_nil)))))) (pwd_or1 (ptd_not (pt_tru (ped_b1 (b1_all (by rfl)) (by rfl) T.z_all (by decide +kernel) (ped_lc (own := [("row", 2)]) (by rfl) sc_fits_table.nd (pid_seq (pd_var 0 (pv 0))) (blkOk_by (by kernel_rfl)) (fun _ _ _ _ _ => (pgd_name (pgn sc_fits_table.nd 2))) (fun _ _ _ _ _ => ptsd_nil) (fun _ _ _ _ _ => (ped_call (ok_is_tuple_of T) (hr.mono (by decide)) (by rfl) T.g_is_tuple_of T.F_is_tuple_of.kp T.b_is_tuple_of (pad_cons (pd_var 2 (pv 2)) (pad_cons pd_int (pad_cons (pd_gint (by rfl) T.g_SIDE) pad_nil)))))))))))) (pssd_one (psd_ret pd_bl)) pssd_nil) (pssd_cons (psd_if (ptd_not (pt_tru (ped_b1 (b1_all (by rfl)) (by rfl) T.z_all (by decide +kernel) (ped_lc (own := [("row", 2)]) (by rfl) sc_fits_table.nd (pid_seq (pd_var 0 (pv 0))) (blkOk_by (by kernel_rfl)) (fun _ _ _ _ _ => (pgd_name (pgn sc_fits_table.nd 2))) (fun _ _ _ _ _ => ptsd_nil) (fun _ _ _ _ _ => (pd_cmp (c2_eq hr.units) (ped_b1 b1_len (by rfl) T.z_len (by decide +kernel) (pd_var 2 (pv 2))) (ped_b1 b1_len (by rfl) T.z_len (by decide +kernel) (ped_ix (hu_of hr) (pd_var 0 (pv 0)) pd_int)) (by rfl))))))) (pssd_one (psd_ret pd_bl)) pssd_nil) (pssd_one (psd_ret (ped_b1 (b1_all (by rfl)) (by rfl) T.z_all (by decide +kernel) (ped_lc (own := [("row", 2)]) (by rfl) sc_fits_table.nd (pid_seq (pd_var 0 (pv 0))) (blkOk_by (by kernel_rfl)) (fun _ _ _ _ _ => (pgd_name (pgn sc_fits_table.nd 2))) (fun _ _ _ _ _ => ptsd_nil) (fun _ _ _ _ _ => (ped_b1 (b1_all (by rfl)) (by rfl) T.z_all (by decide +kernel) (ped_lc (own := [("number", 3)]) (by rfl) sc_fits_table.nd (pid_seq (pd_var 2 (pv 2))) (blkOk_by (by kernel_rfl)) (fun _ _ _ _ _ => (pgd_name (pgn sc_fits_table.nd 3))) (fun _ _ _ _ _ => ptsd_nil) (fun _ _ _ _ _ => (ped_call (ok_fits_whole T) (hr.mono (by decide)) (by rfl) T.g_fits_whole T.F_fits_whole.kp T.b_fits_whole (pad_cons (pd_var 3 (pv 3)) (pad_cons (pd_var 1 (pv 1)) (pad_cons (pd_gint (by rfl) T.g_GREATEST) pad_nil))))))))))))))
  · have h2 : _ = some x := (if_pos (show ds.length = 2 from hl)).symm.trans h; exact h2
  · unfold m_fits_table at h; split at h; · assumption
    · cases h
theorem ok_fits_place (T : Txt K mg) : FnOk P w K mg base CX0 2 T.f_fits_place T.fd_fits_place ["table", "value"] (spD K m_fits_place) := by
  refine fnD (k := 1) T.F_fits_place sc_fits_place b_fits_place (fun cdv A outer s H E hr => ?_) m_fits_place (fun ds hl x h => ?_) (fun ds x h => ?_)
  · exact (pssd_cons (psd_if (ptd_not (pt_tru (ped_call (ok_is_tuple_of T) (hr.mono (by decide)) (by rfl) T.g_is_tuple_of T.F_is_tuple_of.kp T.b_is_tuple_of (pad_cons (pd_var 1 (pv 1)) (pad_cons pd_int (pad_cons pd_int pad_nil)))))) (pssd_one (psd_ret pd_bl)) pssd_nil) (pssd_one (psd_ret (ped_and (ped_call (ok_fits_whole T) (hr.mono (by decide)) (by rfl) T.g_fits_whole T.F_fits_whole.kp T.b_fits_whole (pad_cons (ped_ix (hu_of hr) (pd_var 1 (pv 1)) pd_int) (pad_cons pd_int (pad_cons (pd_bin f2_sub (ped_b1 b1_len (by rfl) T.z_len (by decide +kernel) (pd_var 0 (pv 0))) pd_int) pad_nil)))) (ped_one (ped_call (ok_fits_whole T) (hr.mono (by decide)) (by rfl) T.g_fits_whole T.F_fits_whole.kp T.b_fits_whole (pad_cons (ped_ix (hu_of hr) (pd_var 1 (pv 1)) pd_int) (pad_cons pd_int (pad_cons (pd_bin f2_sub (ped_b1 b1_len (by rfl) T.z_len (by decide +kernel) (ped_ix (hu_of hr) (pd_var 0 (pv 0)) pd_int)) pd_int) pad_nil)))))))))
  · have h2 : _ = some x := (if_pos (show ds.length = 2 from hl)).symm.trans h; exact h2
  · unfold m_fits_place at h; split at h; · assumption
    · cases h
theorem ok__law_some (T : Txt K mg) : FnOk P w K mg base CX0 2 T.f__law_some T.fd__law_some ["cup", "things"] (spC K m__law_some) := by
  refine fnC (k := 1) T.F__law_some sc__law_some b__law_some (by decide) (fun cdv A outer s H E hr => ?_) m__law_some (fun cd ds hl x h => ?_) (fun cd ds x h => ?_)
  · exact (pssd_one (psd_ret (ped_ix (hu_of hr) (pd_var 1 (pv 1)) (ped_callC (ok__law_roll T) (hr.mono (by decide)) (by rfl) T.g__law_roll T.F__law_roll.kp T.b__law_roll (pad_cons (pd_var 0 (pv 0)) (pad_cons (ped_b1 b1_len (by rfl) T.z_len (by decide +kernel) (pd_var 1 (pv 1))) pad_nil))))))
  · have h2 : _ = some x := (if_pos (show ds.length + 1 = 2 from hl)).symm.trans h; exact h2
  · unfold m__law_some at h; split at h; · assumption
    · cases h
theorem ok_need_table (T : Txt K mg) : FnOk P w K mg base CX0 3 T.f_need_table T.fd_need_table ["table"] (spD K m_need_table) := by
  refine fnD (k := 2) T.F_need_table sc_need_table b_need_table (fun cdv A outer s H E hr => ?_) m_need_table (fun ds hl x h => ?_) (fun ds x h => ?_)
  · exact (pssd_one (psd_if (ptd_not (pt_tru (ped_call (ok_fits_table T) (hr.mono (by decide)) (by rfl) T.g_fits_table T.F_fits_table.kp T.b_fits_table (pad_cons (pd_var 0 (pv 0)) (pad_cons (ped_neg (pd_gint (by rfl) T.g_GREATEST)) pad_nil))))) (pssd_one psd_never) pssd_nil))
  · have h2 : _ = some x := (if_pos (show ds.length = 1 from hl)).symm.trans h; exact h2
  · unfold m_need_table at h; split at h; · assumption
    · cases h
theorem ok_fits_rectangle (T : Txt K mg) : FnOk P w K mg base CX0 3 T.f_fits_rectangle T.fd_fits_rectangle ["table", "value"] (spD K m_fits_rectangle) := by
  refine fnD (k := 2) T.F_fits_rectangle sc_fits_rectangle b_fits_rectangle (fun cdv A outer s H E hr => ?_) m_fits_rectangle (fun ds hl x h => ?_) (fun ds x h => ?_)
  · exact (pssd_cons (psd_if (PWD.pt (pwd_or (ptd_not (pt_tru (ped_call (ok_is_tuple_of T) (hr.mono (by decide)) (by rfl) T.g_is_tuple_of T.F_is_tuple_of.kp T.b_is_tuple_of (pad_cons (pd_var 1 (pv 1)) (pad_cons pd_int (pad_cons pd_int pad_nil)))))) (pwd_or (ptd_not (pt_tru (ped_call (ok_fits_place T) (hr.mono (by decide)) (by rfl) T.g_fits_place T.F_fits_place.kp T.b_fits_place (pad_cons (pd_var 0 (pv 0)) (pad_cons (ped_cut (pd_var 1 (pv 1)) pod_none (pod_some pd_int)) pad_nil))))) (pwd_or1 (ptd_not (pt_tru (ped_call (ok_fits_place T) (hr.mono (by decide)) (by rfl) T.g_fits_place T.F_fits_place.kp T.b_fits_place (pad_cons (pd_var 0 (pv 0)) (pad_cons (ped_cut (pd_var 1 (pv 1)) (pod_some pd_int) pod_none) pad_nil))))))))) (pssd_one (psd_ret pd_bl)) pssd_nil) (pssd_one (psd_ret (ped_and (pd_cmp c2_le (ped_ix (hu_of hr) (pd_var 1 (pv 1)) pd_int) (ped_ix (hu_of hr) (pd_var 1 (pv 1)) pd_int) (by rfl)) (ped_one (pd_cmp c2_le (ped_ix (hu_of hr) (pd_var 1 (pv 1)) pd_int) (ped_ix (hu_of hr) (pd_var 1 (pv 1)) pd_int) (by rfl)))))))
  · have h2 : _ = some x := (if_pos (show ds.length = 2 from hl)).symm.trans h; exact h2
  · unfold m_fits_rectangle at h; split at h; · assumption
    · cases h
theorem ok_is_table (T : Txt K mg) : FnOk P w K mg base CX0 3 T.f_is_table T.fd_is_table ["value"] (spD K m_is_table) := by
  refine fnD (k := 2) T.F_is_table sc_is_table b_is_table (fun cdv A outer s H E hr => ?_) m_is_table (fun ds hl x h => ?_) (fun ds x h => ?_)
  · exact (pssd_one (psd_ret (ped_call (ok_fits_table T) (hr.mono (by decide)) (by rfl) T.g_fits_table T.F_fits_table.kp T.b_fits_table (pad_cons (pd_var 0 (pv 0)) (pad_cons (ped_neg (pd_gint (by rfl) T.g_GREATEST)) pad_nil)))))
  · have h2 : _ = some x := (if_pos (show ds.length = 1 from hl)).symm.trans h; exact h2
  · unfold m_is_table at h; split at h; · assumption
    · cases h
theorem ok__law_table (T : Txt K mg) : FnOk P w K mg base CX0 3 T.f__law_table T.fd__law_table ["cup", "rows", "columns"] (spC K m__law_table) := by
  refine fnC (k := 2) T.F__law_table sc__law_table b__law_table (by decide) (fun cdv A outer s H E hr => ?_) m__law_table (fun cd ds hl x h => ?_) (fun cd ds x h => ?_)
  · exact (pssd_cons (psd_unp (ped_callC (ok__law_some T) (hr.mono (by decide)) (by rfl) T.g__law_some T.F__law_some.kp T.b__law_some (pad_cons (pd_var 0 (pv 0)) (pad_cons (ped_lst (pad_cons (ped_tup (pad_cons pd_int (pad_cons pd_int pad_nil))) (pad_cons (ped_tup (pad_cons (ped_neg pd_int) (pad_cons pd_int pad_nil))) (pad_cons (ped_tup (pad_cons (ped_neg pd_int) (pad_cons pd_int pad_nil))) (pad_cons (ped_tup (pad_cons (ped_neg pd_int) (pad_cons pd_int pad_nil))) (pad_cons (ped_tup (pad_cons pd_int (pad_cons pd_int pad_nil))) pad_nil)))))) pad_nil))) (pgd_tup (by rfl) (pgsd_cons (pgd_name (pgn sc__law_table.nd 3)) (pgsd_cons (pgd_name (pgn sc__law_table.nd 4)) pgsd_nil)))) (pssd_one (psd_ret (ped_t1 b1_tuple (by rfl) T.z_tuple (by decide +kernel) (ped_lc (own := [("row", 6)]) (by rfl) sc__law_table.nd (PD.pid_range1 (by rfl) T.z_range (pd_var 1 (pv 1))) (blkOk_by (by kernel_rfl)) (fun _ _ _ _ _ => (pgd_name (pgn sc__law_table.nd 6))) (fun _ _ _ _ _ => ptsd_nil) (fun _ _ _ _ _ => (ped_t1 b1_tuple (by rfl) T.z_tuple (by decide +kernel) (ped_lc (own := [("column", 5)]) (by rfl) sc__law_table.nd (PD.pid_range1 (by rfl) T.z_range (pd_var 2 (pv 2))) (blkOk_by (by kernel_rfl)) (fun _ _ _ _ _ => (pgd_name (pgn sc__law_table.nd 5))) (fun _ _ _ _ _ => ptsd_nil) (fun _ _ _ _ _ => (pd_bin f2_add (pd_var 3 (pv 3)) (ped_callC (ok__law_roll T) (hr.mono (by decide)) (by rfl) T.g__law_roll T.F__law_roll.kp T.b__law_roll (pad_cons (pd_var 0 (pv 0)) (pad_cons (pd_var 4 (pv 4)) pad_nil)))))))))))))
  · have h2 : _ = some x := (if_pos (show ds.length + 1 = 3 from hl)).symm.trans h; exact h2
  · unfold m__law_table at h; split at h; · assumption
    · cases h
theorem ok_sum_of (T : Txt K mg) : FnOk P w K mg base CX0 4 T.f_sum_of T.fd_sum_of ["table", "rectangle"] (spD K m_sum_of) := by
  refine fnD (k := 3) T.F_sum_of sc_sum_of b_sum_of (fun cdv A outer s H E hr => ?_) m_sum_of (fun ds hl x h => ?_) (fun ds x h => ?_)
  · exact (pssd_cons (psd_expr (ped_call (ok_need_table T) (hr.mono (by decide)) (by rfl) T.g_need_table T.F_need_table.kp T.b_need_table (pad_cons (pd_var 0 (pv 0)) pad_nil))) (pssd_cons (psd_if (ptd_not (pt_tru (ped_call (ok_fits_rectangle T) (hr.mono (by decide)) (by rfl) T.g_fits_rectangle T.F_fits_rectangle.kp T.b_fits_rectangle (pad_cons (pd_var 0 (pv 0)) (pad_cons (pd_var 1 (pv 1)) pad_nil))))) (pssd_one psd_never) pssd_nil) (pssd_one (psd_ret (ped_call (ok_sum_by T) (hr.mono (by decide)) (by rfl) T.g_sum_by T.F_sum_by.kp T.b_sum_by (pad_cons (ped_call (ok_sums_in T) (hr.mono (by decide)) (by rfl) T.g_sums_in T.F_sums_in.kp T.b_sums_in (pad_cons (pd_var 0 (pv 0)) pad_nil)) (pad_cons (pd_var 1 (pv 1)) pad_nil)))))))
  · have h2 : _ = some x := (if_pos (show ds.length = 2 from hl)).symm.trans h; exact h2
  · unfold m_sum_of at h; split at h; · assumption
    · cases h
theorem ok_greatest_sum (T : Txt K mg) : FnOk P w K mg base CX0 4 T.f_greatest_sum T.fd_greatest_sum ["table"] (spD K m_greatest_sum) := by
  refine fnD (k := 3) T.F_greatest_sum sc_greatest_sum b_greatest_sum (fun cdv A outer s H E hr => ?_) m_greatest_sum (fun ds hl x h => ?_) (fun ds x h => ?_)
  · exact (pssd_cons (psd_expr (ped_call (ok_need_table T) (hr.mono (by decide)) (by rfl) T.g_need_table T.F_need_table.kp T.b_need_table (pad_cons (pd_var 0 (pv 0)) pad_nil))) (pssd_cons (psd_set (i := 1) sc_greatest_sum.nd (by rfl) (by first | exact .inl rfl | exact .inr rfl) (ped_call (ok_sums_in T) (hr.mono (by decide)) (by rfl) T.g_sums_in T.F_sums_in.kp T.b_sums_in (pad_cons (pd_var 0 (pv 0)) pad_nil))) (pssd_cons (psd_set (i := 2) sc_greatest_sum.nd (by rfl) (by first | exact .inl rfl | exact .inr rfl) pd_non) (pssd_cons (psd_for PassesOwn.never (by rfl) (pid_seq (ped_call (ok_rectangles_in T) (hr.mono (by decide)) (by rfl) T.g_rectangles_in T.F_rectangles_in.kp T.b_rectangles_in (pad_cons (pd_var 0 (pv 0)) pad_nil))) (pgd_name (pgn sc_greatest_sum.nd 3)) (fb := l1_greatest_sum) (pssd_cons (psd_set (i := 4) sc_greatest_sum.nd (by rfl) (by first | exact .inl rfl | exact .inr rfl) (ped_call (ok_sum_by T) (hr.mono (by decide)) (by rfl) T.g_sum_by T.F_sum_by.kp T.b_sum_by (pad_cons (pd_var 1 (pv 1)) (pad_cons (pd_var 3 (pv 3)) pad_nil)))) (pssd_one (psd_if (PWD.pt (pwd_or (PD.pt_cmp c2_is (pd_var 2 (pv 2)) pd_non (by rfl)) (pwd_or1 (PD.pt_cmp c2_gt (pd_var 4 (pv 4)) (ped_ix (hu_of hr) (pd_var 2 (pv 2)) pd_int) (by rfl))))) (pssd_one (psd_set (i := 2) sc_greatest_sum.nd (by rfl) (by first | exact .inl rfl | exact .inr rfl) (ped_tup (pad_cons (pd_var 4 (pv 4)) (pad_cons (pd_var 3 (pv 3)) pad_nil))))) pssd_nil))) [3, 4]) (pssd_one (psd_ret (pd_var 2 (pv 2))))))))
  · have h2 : _ = some x := (if_pos (show ds.length = 1 from hl)).symm.trans h; exact h2
  · unfold m_greatest_sum at h; split at h; · assumption
    · cases h
theorem ok_count_with_sum (T : Txt K mg) : FnOk P w K mg base CX0 4 T.f_count_with_sum T.fd_count_with_sum ["table", "number"] (spD K m_count_with_sum) := by
  refine fnD (k := 3) T.F_count_with_sum sc_count_with_sum b_count_with_sum (fun cdv A outer s H E hr => ?_) m_count_with_sum (fun ds hl x h => ?_) (fun ds x h => ?_)
  · exact (pssd_cons (psd_expr (ped_call (ok_need_table T) (hr.mono (by decide)) (by rfl) T.g_need_table T.F_need_table.kp T.b_need_table (pad_cons (pd_var 0 (pv 0)) pad_nil))) (pssd_cons (psd_if (ptd_not (pt_tru (ped_call (ok_fits_whole T) (hr.mono (by decide)) (by rfl) T.g_fits_whole T.F_fits_whole.kp T.b_fits_whole (pad_cons (pd_var 1 (pv 1)) (pad_cons (pd_bin f2_mul (ped_neg pd_int) (pd_gint (by rfl) T.g_GREATEST)) (pad_cons (pd_bin f2_mul pd_int (pd_gint (by rfl) T.g_GREATEST)) pad_nil)))))) (pssd_one psd_never) pssd_nil) (pssd_cons (psd_set (i := 2) sc_count_with_sum.nd (by rfl) (by first | exact .inl rfl | exact .inr rfl) (ped_call (ok_sums_in T) (hr.mono (by decide)) (by rfl) T.g_sums_in T.F_sums_in.kp T.b_sums_in (pad_cons (pd_var 0 (pv 0)) pad_nil))) (pssd_one (psd_ret (ped_b1 b1_len (by rfl) T.z_len (by decide +kernel) (ped_lc (own := [("one", 3)]) (by rfl) sc_count_with_sum.nd (pid_seq (ped_call (ok_rectangles_in T) (hr.mono (by decide)) (by rfl) T.g_rectangles_in T.F_rectangles_in.kp T.b_rectangles_in (pad_cons (pd_var 0 (pv 0)) pad_nil))) (blkOk_by (by kernel_rfl)) (fun _ _ _ _ _ => (pgd_name (pgn sc_count_with_sum.nd 3))) (fun _ _ _ _ _ => (ptsd_one (PD.pt_cmp (c2_eq hr.units) (ped_call (ok_sum_by T) (hr.mono (by decide)) (by rfl) T.g_sum_by T.F_sum_by.kp T.b_sum_by (pad_cons (pd_var 2 (pv 2)) (pad_cons (pd_var 3 (pv 3)) pad_nil))) (pd_var 1 (pv 1)) (by rfl)))) (fun _ _ _ _ _ => pd_int))))))))
  · have h2 : _ = some x := (if_pos (show ds.length = 2 from hl)).symm.trans h; exact h2
  · unfold m_count_with_sum at h; split at h; · assumption
    · cases h
theorem ok_row_and_column_sums (T : Txt K mg) : FnOk P w K mg base CX0 4 T.f_row_and_column_sums T.fd_row_and_column_sums ["table"] (spD K m_row_and_column_sums) := by
  refine fnD (k := 3) T.F_row_and_column_sums sc_row_and_column_sums b_row_and_column_sums (fun cdv A outer s H E hr => ?_) m_row_and_column_sums (fun ds hl x h => ?_) (fun ds x h => ?_)
  · exact (pssd_cons (psd_expr (ped_call (ok_need_table T) (hr.mono (by decide)) (by rfl) T.g_need_table T.F_need_table.kp T.b_need_table (pad_cons (pd_var 0 (pv 0)) pad_nil))) (pssd_cons (psd_setLc (i := 1) (own := [("column", 3)]) (by rfl) sc_row_and_column_sums.nd (by rfl) (by rfl) (sw_true rfl rfl rfl (by decide +kernel)) (PD.pid_range1 (by rfl) T.z_range (ped_b1 b1_len (by rfl) T.z_len (by decide +kernel) (ped_ix (hu_of hr) (pd_var 0 (pv 0)) pd_int))) (blkOk_by (by kernel_rfl)) (fun _ _ _ _ _ => (pgd_name (pgn sc_row_and_column_sums.nd 3))) (fun _ _ _ _ _ => ptsd_nil) (fun _ _ _ _ _ => (ped_b1 (b1_sum (by rfl)) (by rfl) T.z_sum (by decide +kernel) (ped_lc (own := [("row", 2)]) (by rfl) sc_row_and_column_sums.nd (pid_seq (pd_var 0 (pv 0))) (blkOk_by (by kernel_rfl)) (fun _ _ _ _ _ => (pgd_name (pgn sc_row_and_column_sums.nd 2))) (fun _ _ _ _ _ => ptsd_nil) (fun _ _ _ _ _ => (ped_ix (hu_of hr) (pd_var 2 (pv 2)) (pd_var 3 (pv 3)))))))) (pssd_one (psd_ret (ped_tup (pad_cons (ped_t1 b1_tuple (by rfl) T.z_tuple (by decide +kernel) (ped_lc (own := [("row", 2)]) (by rfl) sc_row_and_column_sums.nd (pid_seq (pd_var 0 (pv 0))) (blkOk_by (by kernel_rfl)) (fun _ _ _ _ _ => (pgd_name (pgn sc_row_and_column_sums.nd 2))) (fun _ _ _ _ _ => ptsd_nil) (fun _ _ _ _ _ => (ped_b1 (b1_sum (by rfl)) (by rfl) T.z_sum (by decide +kernel) (pd_var 2 (pv 2)))))) (pad_cons (ped_t1 b1_tuple (by rfl) T.z_tuple (by decide +kernel) (pd_var 1 (pv 1))) pad_nil)))))))
  · have h2 : _ = some x := (if_pos (show ds.length = 1 from hl)).symm.trans h; exact h2
  · unfold m_row_and_column_sums at h; split at h; · assumption
    · cases h
theorem ok__law_same (T : Txt K mg) : ∀ i : Nat, FnOk P w K mg base CX0 (i + 0) T.f__law_same T.fd__law_same ["told", "due"] (spD K (m__law_same i))
  | 0 => fn_never fun ds x h => by cases h
  | i + 1 => by
    have ih := ok__law_same T i
    refine FnOk.mono (fnD (k := i + 0) T.F__law_same sc__law_same (b__law_same (m__law_same i)) (fun cdv A outer s H E hr => ?_) (m__law_same (i + 1)) (fun ds hl x h => ?_) (fun ds x h => ?_)) (by omega)
    · exact (pssd_cons (psd_if (PWD.pt (pwd_or (pt_tru (ped_isi (by rfl) T.z_isinstance (by rfl) T.z_tuple (by decide +kernel) (by decide) (pd_var 1 (pv 1)))) (pwd_or1 (pt_tru (ped_isi (by rfl) T.z_isinstance (by rfl) T.z_list (by decide +kernel) (by decide) (pd_var 1 (pv 1))))))) (pssd_cons (psd_if (PWD.pt (pwd_or (PD.pt_cmp (c2_ne hr.units) (ped_isi (by rfl) T.z_isinstance (by rfl) T.z_tuple (by decide +kernel) (by decide) (pd_var 0 (pv 0))) (ped_isi (by rfl) T.z_isinstance (by rfl) T.z_tuple (by decide +kernel) (by decide) (pd_var 1 (pv 1))) (by rfl)) (pwd_or (PD.pt_cmp (c2_ne hr.units) (ped_isi (by rfl) T.z_isinstance (by rfl) T.z_list (by decide +kernel) (by decide) (pd_var 0 (pv 0))) (ped_isi (by rfl) T.z_isinstance (by rfl) T.z_list (by decide +kernel) (by decide) (pd_var 1 (pv 1))) (by rfl)) (pwd_or1 (PD.pt_cmp (c2_ne hr.units) (ped_b1 b1_len (by rfl) T.z_len (by decide +kernel) (pd_var 0 (pv 0))) (ped_b1 b1_len (by rfl) T.z_len (by decide +kernel) (pd_var 1 (pv 1))) (by rfl)))))) (pssd_one (psd_ret pd_bl)) pssd_nil) (pssd_one (psd_ret (pd_cmp (c2_eq hr.units) (ped_lc (own := [("at", 2)]) (by rfl) sc__law_same.nd (PD.pid_range1 (by rfl) T.z_range (ped_b1 b1_len (by rfl) T.z_len (by decide +kernel) (pd_var 1 (pv 1)))) (blkOk_by (by kernel_rfl)) (fun _ _ _ _ _ => (pgd_name (pgn sc__law_same.nd 2))) (fun _ _ _ _ _ => (ptsd_one (ptd_not (pt_tru (ped_call ih hr (by rfl) T.g__law_same T.F__law_same.kp T.b__law_same (pad_cons (ped_ix (hu_of hr) (pd_var 0 (pv 0)) (pd_var 2 (pv 2))) (pad_cons (ped_ix (hu_of hr) (pd_var 1 (pv 1)) (pd_var 2 (pv 2))) pad_nil))))))) (fun _ _ _ _ _ => pd_int)) (ped_lst pad_nil) (by rfl))))) pssd_nil) (pssd_cons (psd_if (PD.pt_cmp c2_is (pd_var 1 (pv 1)) pd_non (by rfl)) (pssd_one (psd_ret (pd_cmp c2_is (pd_var 0 (pv 0)) pd_non (by rfl)))) pssd_nil) (pssd_cons (psd_if (pt_tru (ped_isi (by rfl) T.z_isinstance (by rfl) T.z_bool (by decide +kernel) (by decide) (pd_var 1 (pv 1)))) (pssd_one (psd_ret (ped_if (pt_tru (pd_var 1 (pv 1))) (pd_cmp c2_is (pd_var 0 (pv 0)) pd_bl (by rfl)) (pd_cmp c2_is (pd_var 0 (pv 0)) pd_bl (by rfl))))) pssd_nil) (pssd_cons (psd_if (pt_tru (ped_isi (by rfl) T.z_isinstance (by rfl) T.z_int (by decide +kernel) (by decide) (pd_var 1 (pv 1)))) (pssd_one (psd_ret (ped_and (ped_isi (by rfl) T.z_isinstance (by rfl) T.z_int (by decide +kernel) (by decide) (pd_var 0 (pv 0))) (ped_and (ped_not (ped_isi (by rfl) T.z_isinstance (by rfl) T.z_bool (by decide +kernel) (by decide) (pd_var 0 (pv 0)))) (ped_one (pd_cmp (c2_eq hr.units) (ped_t1 b1_int (by rfl) T.z_int (by decide +kernel) (pd_var 0 (pv 0))) (pd_var 1 (pv 1)) (by rfl))))))) pssd_nil) (pssd_one (psd_ret (ped_and (ped_isi (by rfl) T.z_isinstance (by rfl) T.z_str (by decide +kernel) (by decide) (pd_var 0 (pv 0))) (ped_one (pd_cmp (c2_eq hr.units) (ped_t1 b1_str (by rfl) T.z_str (by decide +kernel) (pd_var 0 (pv 0))) (pd_var 1 (pv 1)) (by rfl))))))))))
    · have h2 : _ = some x := (if_pos (show ds.length = 2 from hl)).symm.trans h; exact h2
    · unfold m__law_same at h; split at h; · assumption
      · cases h
theorem ok__law_counts_right (T : Txt K mg) : FnOk P w K mg base CX0 10 T.f__law_counts_right T.fd__law_counts_right ["table"] (spD K m__law_counts_right) := by
  refine fnD (k := 9) T.F__law_counts_right sc__law_counts_right b__law_counts_right (fun cdv A outer s H E hr => ?_) m__law_counts_right (fun ds hl x h => ?_) (fun ds x h => ?_)
  · exact (pssd_cons (psd_par2 (i := 1) (j := 2) (by rfl) sc__law_counts_right.nd (by rfl) (by rfl) (by decide) (by rfl) (by rfl) (pad_cons (ped_b1 b1_len (by rfl) T.z_len (by decide +kernel) (pd_var 0 (pv 0))) (pad_cons (ped_b1 b1_len (by rfl) T.z_len (by decide +kernel) (ped_ix (hu_of hr) (pd_var 0 (pv 0)) pd_int)) pad_nil))) (pssd_cons (psd_par2 (i := 3) (j := 4) (by rfl) sc__law_counts_right.nd (by rfl) (by rfl) (by decide) (by rfl) (by rfl) (pad_cons (ped_b1 (b1_sum (by rfl)) (by rfl) T.z_sum (by decide +kernel) (ped_lc (own := [("line", 6)]) (by rfl) sc__law_counts_right.nd (pid_seq (pd_var 0 (pv 0))) (blkOk_by (by kernel_rfl)) (fun _ _ _ _ _ => (pgd_name (pgn sc__law_counts_right.nd 6))) (fun _ _ _ _ _ => ptsd_nil) (fun _ _ _ _ _ => (ped_b1 (b1_sum (by rfl)) (by rfl) T.z_sum (by decide +kernel) (ped_lc (own := [("number", 5)]) (by rfl) sc__law_counts_right.nd (pid_seq (pd_var 6 (pv 6))) (blkOk_by (by kernel_rfl)) (fun _ _ _ _ _ => (pgd_name (pgn sc__law_counts_right.nd 5))) (fun _ _ _ _ _ => ptsd_nil) (fun _ _ _ _ _ => (ped_b1 b1_abs (by rfl) T.z_abs (by decide +kernel) (pd_var 5 (pv 5))))))))) (pad_cons (ped_call (ok__law_rectangles T) (hr.mono (by decide)) (by rfl) T.g__law_rectangles T.F__law_rectangles.kp T.b__law_rectangles (pad_cons (pd_var 1 (pv 1)) (pad_cons (pd_var 2 (pv 2)) pad_nil))) pad_nil))) (pssd_cons (psd_set (i := 7) sc__law_counts_right.nd (by rfl) (by first | exact .inl rfl | exact .inr rfl) (ped_t1 (b1_dict (by rfl)) (by rfl) T.z_dict (by decide +kernel) (ped_lc (own := [("number", 5)]) (by rfl) sc__law_counts_right.nd (PD.pid_range2 (by rfl) T.z_range (ped_neg (pd_var 3 (pv 3))) (pd_bin f2_add (pd_var 3 (pv 3)) pd_int)) (blkOk_by (by kernel_rfl)) (fun _ _ _ _ _ => (pgd_name (pgn sc__law_counts_right.nd 5))) (fun _ _ _ _ _ => ptsd_nil) (fun _ _ _ _ _ => (ped_tup (pad_cons (pd_var 5 (pv 5)) (pad_cons (ped_call (ok_count_with_sum T) (hr.mono (by decide)) (by rfl) T.g_count_with_sum T.F_count_with_sum.kp T.b_count_with_sum (pad_cons (pd_var 0 (pv 0)) (pad_cons (pd_var 5 (pv 5)) pad_nil))) pad_nil))))))) (pssd_cons (psd_setLcD (i := 8) (own := [("number", 5)]) (by rfl) sc__law_counts_right.nd (by rfl) (by rfl) (sw_true rfl rfl rfl (by decide +kernel)) (kind_keys (pv 7)) (blkOk_by (by kernel_rfl)) (fun _ _ _ _ _ => (pgd_name (pgn sc__law_counts_right.nd 5))) (fun _ _ _ _ _ => (ptsd_one (PD.pt_cmp c2_gt (ped_ix (hu_of hr) (pd_var 7 (pv 7)) (pd_var 5 (pv 5))) pd_int (by rfl)))) (fun _ _ _ _ _ => (pd_var 5 (pv 5)))) (pssd_cons (psd_unp (ped_call (ok_greatest_sum T) (hr.mono (by decide)) (by rfl) T.g_greatest_sum T.F_greatest_sum.kp T.b_greatest_sum (pad_cons (pd_var 0 (pv 0)) pad_nil)) (pgd_tup (by rfl) (pgsd_cons (pgd_name (pgn sc__law_counts_right.nd 9)) (pgsd_cons (pgd_name (pgn sc__law_counts_right.nd 10)) pgsd_nil)))) (pssd_cons (psd_set (i := 11) sc__law_counts_right.nd (by rfl) (by first | exact .inl rfl | exact .inr rfl) (ped_ix (hu_of hr) (ped_lc (own := [("one", 12)]) (by rfl) sc__law_counts_right.nd (pid_seq (pd_var 4 (pv 4))) (blkOk_by (by kernel_rfl)) (fun _ _ _ _ _ => (pgd_name (pgn sc__law_counts_right.nd 12))) (fun _ _ _ _ _ => (ptsd_one (PD.pt_cmp (c2_eq hr.units) (ped_call (ok_sum_of T) (hr.mono (by decide)) (by rfl) T.g_sum_of T.F_sum_of.kp T.b_sum_of (pad_cons (pd_var 0 (pv 0)) (pad_cons (pd_var 12 (pv 12)) pad_nil))) (pd_var 9 (pv 9)) (by rfl)))) (fun _ _ _ _ _ => (pd_var 12 (pv 12)))) pd_int)) (pssd_cons (psd_set (i := 13) sc__law_counts_right.nd (by rfl) (by first | exact .inl rfl | exact .inr rfl) (ped_lst (pad_cons (ped_sumVals (by rfl) (by rfl) T.z_sum (pd_var 7 (pv 7))) (pad_cons (pd_var 9 (pv 9)) (pad_cons (pd_var 10 (pv 10)) (pad_cons (ped_ix (hu_of hr) (ped_call (ok_greatest_sum T) (hr.mono (by decide)) (by rfl) T.g_greatest_sum T.F_greatest_sum.kp T.b_greatest_sum (pad_cons (ped_call (ok__law_each T) (hr.mono (by decide)) (by rfl) T.g__law_each T.F__law_each.kp T.b__law_each (pad_cons (pd_var 0 (pv 0)) (pad_cons (ped_neg pd_int) pad_nil))) pad_nil)) pd_int) (pad_cons (ped_call (ok_count_with_sum T) (hr.mono (by decide)) (by rfl) T.g_count_with_sum T.F_count_with_sum.kp T.b_count_with_sum (pad_cons (pd_var 0 (pv 0)) (pad_cons (pd_bin f2_add (pd_var 3 (pv 3)) pd_int) pad_nil))) (pad_cons (ped_call (ok_is_table T) (hr.mono (by decide)) (by rfl) T.g_is_table T.F_is_table.kp T.b_is_table (pad_cons (pd_var 0 (pv 0)) pad_nil)) pad_nil)))))))) (pssd_cons (psd_if (PWD.pt (pwd_or (ptd_not (pt_tru (ped_call (ok__law_same T 8) (hr.mono (by decide)) (by rfl) T.g__law_same T.F__law_same.kp T.b__law_same (pad_cons (pd_var 13 (pv 13)) (pad_cons (ped_lst (pad_cons (ped_b1 b1_len (by rfl) T.z_len (by decide +kernel) (pd_var 4 (pv 4))) (pad_cons (ped_b1 (b1_max (by rfl)) (by rfl) T.z_max (by decide +kernel) (pd_var 8 (pv 8))) (pad_cons (pd_var 11 (pv 11)) (pad_cons (ped_neg (ped_b1 (b1_min (by rfl)) (by rfl) T.z_min (by decide +kernel) (pd_var 8 (pv 8)))) (pad_cons pd_int (pad_cons pd_bl pad_nil))))))) pad_nil))))) (pwd_or1 (PD.pt_cmp (c2_ne hr.units) (ped_b1 b1_len (by rfl) T.z_len (by decide +kernel) (pd_var 4 (pv 4))) (pd_bin f2_div (pd_bin f2_mul (pd_bin f2_mul (pd_bin f2_mul (pd_var 1 (pv 1)) (pd_bin f2_add (pd_var 1 (pv 1)) pd_int)) (pd_var 2 (pv 2))) (pd_bin f2_add (pd_var 2 (pv 2)) pd_int)) pd_int) (by rfl))))) (pssd_one (psd_ret pd_bl)) pssd_nil) (pssd_cons (psd_set (i := 14) sc__law_counts_right.nd (by rfl) (by first | exact .inl rfl | exact .inr rfl) (ped_t1 b1_tuple (by rfl) T.z_tuple (by decide +kernel) (ped_lc (own := [("column", 15)]) (by rfl) sc__law_counts_right.nd (PD.pid_range1 (by rfl) T.z_range (pd_var 2 (pv 2))) (blkOk_by (by kernel_rfl)) (fun _ _ _ _ _ => (pgd_name (pgn sc__law_counts_right.nd 15))) (fun _ _ _ _ _ => ptsd_nil) (fun _ _ _ _ _ => (ped_t1 b1_tuple (by rfl) T.z_tuple (by decide +kernel) (ped_lc (own := [("line", 6)]) (by rfl) sc__law_counts_right.nd (pid_seq (pd_var 0 (pv 0))) (blkOk_by (by kernel_rfl)) (fun _ _ _ _ _ => (pgd_name (pgn sc__law_counts_right.nd 6))) (fun _ _ _ _ _ => ptsd_nil) (fun _ _ _ _ _ => (ped_ix (hu_of hr) (pd_var 6 (pv 6)) (pd_var 15 (pv 15)))))))))) (pssd_cons (psd_for PassesOwn.never (by rfl) (pid_seq (ped_tup (pad_cons (ped_b1 (b1_min (by rfl)) (by rfl) T.z_min (by decide +kernel) (pd_var 8 (pv 8))) (pad_cons (ped_b1 (b1_max (by rfl)) (by rfl) T.z_max (by decide +kernel) (pd_var 8 (pv 8))) (pad_cons pd_int (pad_cons pd_int pad_nil)))))) (pgd_name (pgn sc__law_counts_right.nd 5)) (fb := l1__law_counts_right) (pssd_cons (psd_set (i := 13) sc__law_counts_right.nd (by rfl) (by first | exact .inl rfl | exact .inr rfl) (ped_lst (pad_cons (ped_call (ok_count_with_sum T) (hr.mono (by decide)) (by rfl) T.g_count_with_sum T.F_count_with_sum.kp T.b_count_with_sum (pad_cons (ped_call (ok__law_each T) (hr.mono (by decide)) (by rfl) T.g__law_each T.F__law_each.kp T.b__law_each (pad_cons (pd_var 0 (pv 0)) (pad_cons (ped_neg pd_int) pad_nil))) (pad_cons (ped_neg (pd_var 5 (pv 5))) pad_nil))) (pad_cons (ped_call (ok_count_with_sum T) (hr.mono (by decide)) (by rfl) T.g_count_with_sum T.F_count_with_sum.kp T.b_count_with_sum (pad_cons (pd_var 14 (pv 14)) (pad_cons (pd_var 5 (pv 5)) pad_nil))) (pad_cons (ped_call (ok_count_with_sum T) (hr.mono (by decide)) (by rfl) T.g_count_with_sum T.F_count_with_sum.kp T.b_count_with_sum (pad_cons (ped_call (ok__law_each T) (hr.mono (by decide)) (by rfl) T.g__law_each T.F__law_each.kp T.b__law_each (pad_cons (pd_var 0 (pv 0)) (pad_cons pd_int pad_nil))) (pad_cons (pd_bin f2_mul pd_int (pd_var 5 (pv 5))) pad_nil))) pad_nil))))) (pssd_one (psd_if (ptd_not (pt_tru (ped_call (ok__law_same T 8) (hr.mono (by decide)) (by rfl) T.g__law_same T.F__law_same.kp T.b__law_same (pad_cons (pd_bin f2_add (pd_var 13 (pv 13)) (ped_lst (pad_cons (ped_call (ok_count_with_sum T) (hr.mono (by decide)) (by rfl) T.g_count_with_sum T.F_count_with_sum.kp T.b_count_with_sum (pad_cons (ped_rev (pd_var 0 (pv 0))) (pad_cons (pd_var 5 (pv 5)) pad_nil))) pad_nil))) (pad_cons (pd_bin f2_mul (ped_lst (pad_cons (ped_get2 (hu_of hr) (pd_var 7 (pv 7)) (pd_var 5 (pv 5)) pd_int) pad_nil)) pd_int) pad_nil))))) (pssd_one (psd_ret pd_bl)) pssd_nil))) [5]) (pssd_one (psd_ret (ped_call (ok__law_same T 8) (hr.mono (by decide)) (by rfl) T.g__law_same T.F__law_same.kp T.b__law_same (pad_cons (ped_lst (pad_cons (ped_ix (hu_of hr) (ped_call (ok_greatest_sum T) (hr.mono (by decide)) (by rfl) T.g_greatest_sum T.F_greatest_sum.kp T.b_greatest_sum (pad_cons (pd_var 14 (pv 14)) pad_nil)) pd_int) (pad_cons (ped_call (ok_greatest_sum T) (hr.mono (by decide)) (by rfl) T.g_greatest_sum T.F_greatest_sum.kp T.b_greatest_sum (pad_cons (ped_call (ok__law_each T) (hr.mono (by decide)) (by rfl) T.g__law_each T.F__law_each.kp T.b__law_each (pad_cons (pd_var 0 (pv 0)) (pad_cons pd_int pad_nil))) pad_nil)) pad_nil))) (pad_cons (ped_lst (pad_cons (pd_var 9 (pv 9)) (pad_cons (ped_tup (pad_cons (pd_bin f2_mul pd_int (pd_var 9 (pv 9))) (pad_cons (pd_var 10 (pv 10)) pad_nil))) pad_nil))) pad_nil)))))))))))))))
  · have h2 : _ = some x := (if_pos (show ds.length = 1 from hl)).symm.trans h; exact h2
  · unfold m__law_counts_right at h; split at h; · assumption
    · cases h
theorem ok__law_parts_right (T : Txt K mg) : FnOk P w K mg base CX0 10 T.f__law_parts_right T.fd__law_parts_right ["cup", "table", "other"] (spC K m__law_parts_right) := by
  refine fnC (k := 9) T.F__law_parts_right sc__law_parts_right b__law_parts_right (by decide) (fun cdv A outer s H E hr => ?_) m__law_parts_right (fun cd ds hl x h => ?_) (fun cd ds x h => ?_)
  · exact (pssd_cons (psd_par2 (i := 3) (j := 4) (by rfl) sc__law_parts_right.nd (by rfl) (by rfl) (by decide) (by rfl) (by rfl) (pad_cons (ped_call (ok__law_rectangles T) (hr.mono (by decide)) (by rfl) T.g__law_rectangles T.F__law_rectangles.kp T.b__law_rectangles (pad_cons (ped_b1 b1_len (by rfl) T.z_len (by decide +kernel) (pd_var 1 (pv 1))) (pad_cons (ped_b1 b1_len (by rfl) T.z_len (by decide +kernel) (ped_ix (hu_of hr) (pd_var 1 (pv 1)) pd_int)) pad_nil))) (pad_cons (ped_lst pad_nil) pad_nil))) (pssd_cons (psd_for PassesOwn.never (by rfl) (pid_zip (by rfl) T.z_zip (pad_cons (pd_var 1 (pv 1)) (pad_cons (pd_var 2 (pv 2)) pad_nil))) (pgd_tup (by rfl) (pgsd_cons (pgd_name (pgn sc__law_parts_right.nd 5)) (pgsd_cons (pgd_name (pgn sc__law_parts_right.nd 6)) pgsd_nil))) (fb := l1__law_parts_right) (pssd_one (psd_expr (ped_append 4 (pv 4) (ped_t1 b1_tuple (by rfl) T.z_tuple (by decide +kernel) (ped_lc (own := [("number", 7), ("far", 8)]) (by rfl) sc__law_parts_right.nd (pid_zip (by rfl) T.z_zip (pad_cons (pd_var 5 (pv 5)) (pad_cons (pd_var 6 (pv 6)) pad_nil))) (blkOk_by (by kernel_rfl)) (fun _ _ _ _ _ => (pgd_tup (by rfl) (pgsd_cons (pgd_name (pgn sc__law_parts_right.nd 7)) (pgsd_cons (pgd_name (pgn sc__law_parts_right.nd 8)) pgsd_nil)))) (fun _ _ _ _ _ => ptsd_nil) (fun _ _ _ _ _ => (pd_bin f2_add (pd_var 7 (pv 7)) (pd_var 8 (pv 8))))))))) [5, 6, 7, 8]) (pssd_cons (psd_for PassesOwn.never (by rfl) (PD.pid_range1 (by rfl) T.z_range pd_int) (pgd_name (pgn sc__law_parts_right.nd 9)) (fb := l2__law_parts_right) (pssd_cons (psd_set (i := 10) sc__law_parts_right.nd (by rfl) (by first | exact .inl rfl | exact .inr rfl) (ped_callC (ok__law_some T) (hr.mono (by decide)) (by rfl) T.g__law_some T.F__law_some.kp T.b__law_some (pad_cons (pd_var 0 (pv 0)) (pad_cons (pd_var 3 (pv 3)) pad_nil)))) (pssd_cons (psd_unp (pd_var 10 (pv 10)) (pgd_tup (by rfl) (pgsd_cons (pgd_name (pgn sc__law_parts_right.nd 11)) (pgsd_cons (pgd_name (pgn sc__law_parts_right.nd 12)) (pgsd_cons (pgd_name (pgn sc__law_parts_right.nd 13)) (pgsd_cons (pgd_name (pgn sc__law_parts_right.nd 14)) pgsd_nil)))))) (pssd_cons (psd_par3 (i := 15) (j := 16) (l := 17) (by rfl) sc__law_parts_right.nd (by rfl) (by rfl) (by rfl) (by decide) (by decide) (by decide) (by rfl) (by rfl) (by rfl) (pad_cons (ped_call (ok_sum_of T) (hr.mono (by decide)) (by rfl) T.g_sum_of T.F_sum_of.kp T.b_sum_of (pad_cons (pd_var 1 (pv 1)) (pad_cons (pd_var 10 (pv 10)) pad_nil))) (pad_cons (pd_bin f2_add (pd_var 11 (pv 11)) (ped_callC (ok__law_roll T) (hr.mono (by decide)) (by rfl) T.g__law_roll T.F__law_roll.kp T.b__law_roll (pad_cons (pd_var 0 (pv 0)) (pad_cons (pd_bin f2_add (pd_bin f2_sub (pd_var 13 (pv 13)) (pd_var 11 (pv 11))) pd_int) pad_nil)))) (pad_cons (pd_bin f2_add (pd_var 12 (pv 12)) (ped_callC (ok__law_roll T) (hr.mono (by decide)) (by rfl) T.g__law_roll T.F__law_roll.kp T.b__law_roll (pad_cons (pd_var 0 (pv 0)) (pad_cons (pd_bin f2_add (pd_bin f2_sub (pd_var 14 (pv 14)) (pd_var 12 (pv 12))) pd_int) pad_nil)))) pad_nil)))) (pssd_cons (psd_set (i := 18) sc__law_parts_right.nd (by rfl) (by first | exact .inl rfl | exact .inr rfl) (pd_bin f2_add (ped_call (ok_sum_of T) (hr.mono (by decide)) (by rfl) T.g_sum_of T.F_sum_of.kp T.b_sum_of (pad_cons (pd_var 1 (pv 1)) (pad_cons (ped_tup (pad_cons (pd_var 11 (pv 11)) (pad_cons (pd_var 12 (pv 12)) (pad_cons (pd_var 16 (pv 16)) (pad_cons (pd_var 14 (pv 14)) pad_nil))))) pad_nil))) (ped_if (PD.pt_cmp (c2_lt hr.units0) (pd_var 16 (pv 16)) (pd_var 13 (pv 13)) (by rfl)) (ped_call (ok_sum_of T) (hr.mono (by decide)) (by rfl) T.g_sum_of T.F_sum_of.kp T.b_sum_of (pad_cons (pd_var 1 (pv 1)) (pad_cons (ped_tup (pad_cons (pd_bin f2_add (pd_var 16 (pv 16)) pd_int) (pad_cons (pd_var 12 (pv 12)) (pad_cons (pd_var 13 (pv 13)) (pad_cons (pd_var 14 (pv 14)) pad_nil))))) pad_nil))) pd_int))) (pssd_cons (psd_set (i := 19) sc__law_parts_right.nd (by rfl) (by first | exact .inl rfl | exact .inr rfl) (pd_bin f2_add (ped_call (ok_sum_of T) (hr.mono (by decide)) (by rfl) T.g_sum_of T.F_sum_of.kp T.b_sum_of (pad_cons (pd_var 1 (pv 1)) (pad_cons (ped_tup (pad_cons (pd_var 11 (pv 11)) (pad_cons (pd_var 12 (pv 12)) (pad_cons (pd_var 13 (pv 13)) (pad_cons (pd_var 17 (pv 17)) pad_nil))))) pad_nil))) (ped_if (PD.pt_cmp (c2_lt hr.units0) (pd_var 17 (pv 17)) (pd_var 14 (pv 14)) (by rfl)) (ped_call (ok_sum_of T) (hr.mono (by decide)) (by rfl) T.g_sum_of T.F_sum_of.kp T.b_sum_of (pad_cons (pd_var 1 (pv 1)) (pad_cons (ped_tup (pad_cons (pd_var 11 (pv 11)) (pad_cons (pd_bin f2_add (pd_var 17 (pv 17)) pd_int) (pad_cons (pd_var 13 (pv 13)) (pad_cons (pd_var 14 (pv 14)) pad_nil))))) pad_nil))) pd_int))) (pssd_cons (psd_set (i := 20) sc__law_parts_right.nd (by rfl) (by first | exact .inl rfl | exact .inr rfl) (ped_b1 (b1_sum (by rfl)) (by rfl) T.z_sum (by decide +kernel) (ped_lc (own := [("line", 5)]) (by rfl) sc__law_parts_right.nd (pid_seq (ped_cut (pd_var 1 (pv 1)) (pod_some (pd_var 11 (pv 11))) (pod_some (pd_bin f2_add (pd_var 13 (pv 13)) pd_int)))) (blkOk_by (by kernel_rfl)) (fun _ _ _ _ _ => (pgd_name (pgn sc__law_parts_right.nd 5))) (fun _ _ _ _ _ => ptsd_nil) (fun _ _ _ _ _ => (ped_b1 (b1_sum (by rfl)) (by rfl) T.z_sum (by decide +kernel) (ped_cut (pd_var 5 (pv 5)) (pod_some (pd_var 12 (pv 12))) (pod_some (pd_bin f2_add (pd_var 14 (pv 14)) pd_int)))))))) (pssd_cons (psd_set (i := 21) sc__law_parts_right.nd (by rfl) (by first | exact .inl rfl | exact .inr rfl) (ped_lst (pad_cons (pd_var 18 (pv 18)) (pad_cons (pd_var 19 (pv 19)) (pad_cons (ped_call (ok_sum_of T) (hr.mono (by decide)) (by rfl) T.g_sum_of T.F_sum_of.kp T.b_sum_of (pad_cons (ped_t1 b1_tuple (by rfl) T.z_tuple (by decide +kernel) (pd_var 4 (pv 4))) (pad_cons (pd_var 10 (pv 10)) pad_nil))) (pad_cons (ped_call (ok_sum_of T) (hr.mono (by decide)) (by rfl) T.g_sum_of T.F_sum_of.kp T.b_sum_of (pad_cons (pd_var 1 (pv 1)) (pad_cons (ped_tup (pad_cons (pd_var 16 (pv 16)) (pad_cons (pd_var 17 (pv 17)) (pad_cons (pd_var 16 (pv 16)) (pad_cons (pd_var 17 (pv 17)) pad_nil))))) pad_nil))) pad_nil)))))) (pssd_one (psd_if (PWD.pt (pwd_or (ptd_not (pt_tru (ped_call (ok__law_same T 8) (hr.mono (by decide)) (by rfl) T.g__law_same T.F__law_same.kp T.b__law_same (pad_cons (pd_var 21 (pv 21)) (pad_cons (ped_lst (pad_cons (pd_var 15 (pv 15)) (pad_cons (pd_var 15 (pv 15)) (pad_cons (pd_bin f2_add (pd_var 15 (pv 15)) (ped_call (ok_sum_of T) (hr.mono (by decide)) (by rfl) T.g_sum_of T.F_sum_of.kp T.b_sum_of (pad_cons (pd_var 2 (pv 2)) (pad_cons (pd_var 10 (pv 10)) pad_nil)))) (pad_cons (ped_ix (hu_of hr) (ped_ix (hu_of hr) (pd_var 1 (pv 1)) (pd_var 16 (pv 16))) (pd_var 17 (pv 17))) pad_nil))))) pad_nil))))) (pwd_or (PD.pt_cmp (c2_ne hr.units) (pd_var 15 (pv 15)) (pd_var 20 (pv 20)) (by rfl)) (pwd_or1 (PD.pt_cmp c2_gt (pd_var 15 (pv 15)) (ped_ix (hu_of hr) (ped_call (ok_greatest_sum T) (hr.mono (by decide)) (by rfl) T.g_greatest_sum T.F_greatest_sum.kp T.b_greatest_sum (pad_cons (pd_var 1 (pv 1)) pad_nil)) pd_int) (by rfl)))))) (pssd_one (psd_ret pd_bl)) pssd_nil))))))))) [5, 9, 10, 11, 12, 13, 14, 15, 16, 17, 18, 19, 20, 21]) (pssd_cons (psd_unp (ped_call (ok_row_and_column_sums T) (hr.mono (by decide)) (by rfl) T.g_row_and_column_sums T.F_row_and_column_sums.kp T.b_row_and_column_sums (pad_cons (pd_var 1 (pv 1)) pad_nil)) (pgd_tup (by rfl) (pgsd_cons (pgd_name (pgn sc__law_parts_right.nd 22)) (pgsd_cons (pgd_name (pgn sc__law_parts_right.nd 23)) pgsd_nil)))) (pssd_cons (psd_set (i := 24) sc__law_parts_right.nd (by rfl) (by first | exact .inl rfl | exact .inr rfl) (ped_call (ok_sum_of T) (hr.mono (by decide)) (by rfl) T.g_sum_of T.F_sum_of.kp T.b_sum_of (pad_cons (pd_var 1 (pv 1)) (pad_cons (ped_tup (pad_cons pd_int (pad_cons pd_int (pad_cons (pd_bin f2_sub (ped_b1 b1_len (by rfl) T.z_len (by decide +kernel) (pd_var 1 (pv 1))) pd_int) (pad_cons (pd_bin f2_sub (ped_b1 b1_len (by rfl) T.z_len (by decide +kernel) (ped_ix (hu_of hr) (pd_var 1 (pv 1)) pd_int)) pd_int) pad_nil))))) pad_nil)))) (pssd_cons (psd_set (i := 25) sc__law_parts_right.nd (by rfl) (by first | exact .inl rfl | exact .inr rfl) (ped_t1 b1_tuple (by rfl) T.z_tuple (by decide +kernel) (ped_lc (own := [("row", 16)]) (by rfl) sc__law_parts_right.nd (PD.pid_range1 (by rfl) T.z_range (ped_b1 b1_len (by rfl) T.z_len (by decide +kernel) (pd_var 1 (pv 1)))) (blkOk_by (by kernel_rfl)) (fun _ _ _ _ _ => (pgd_name (pgn sc__law_parts_right.nd 16))) (fun _ _ _ _ _ => ptsd_nil) (fun _ _ _ _ _ => (ped_call (ok_sum_of T) (hr.mono (by decide)) (by rfl) T.g_sum_of T.F_sum_of.kp T.b_sum_of (pad_cons (pd_var 1 (pv 1)) (pad_cons (ped_tup (pad_cons (pd_var 16 (pv 16)) (pad_cons pd_int (pad_cons (pd_var 16 (pv 16)) (pad_cons (pd_bin f2_sub (ped_b1 b1_len (by rfl) T.z_len (by decide +kernel) (ped_ix (hu_of hr) (pd_var 1 (pv 1)) pd_int)) pd_int) pad_nil))))) pad_nil))))))) (pssd_cons (psd_set (i := 26) sc__law_parts_right.nd (by rfl) (by first | exact .inl rfl | exact .inr rfl) (ped_t1 b1_tuple (by rfl) T.z_tuple (by decide +kernel) (ped_lc (own := [("column", 17)]) (by rfl) sc__law_parts_right.nd (PD.pid_range1 (by rfl) T.z_range (ped_b1 b1_len (by rfl) T.z_len (by decide +kernel) (ped_ix (hu_of hr) (pd_var 1 (pv 1)) pd_int))) (blkOk_by (by kernel_rfl)) (fun _ _ _ _ _ => (pgd_name (pgn sc__law_parts_right.nd 17))) (fun _ _ _ _ _ => ptsd_nil) (fun _ _ _ _ _ => (ped_t1 b1_tuple (by rfl) T.z_tuple (by decide +kernel) (ped_lc (own := [("line", 5)]) (by rfl) sc__law_parts_right.nd (pid_seq (pd_var 1 (pv 1))) (blkOk_by (by kernel_rfl)) (fun _ _ _ _ _ => (pgd_name (pgn sc__law_parts_right.nd 5))) (fun _ _ _ _ _ => ptsd_nil) (fun _ _ _ _ _ => (ped_ix (hu_of hr) (pd_var 5 (pv 5)) (pd_var 17 (pv 17)))))))))) (pssd_one (psd_ret (ped_call (ok__law_same T 8) (hr.mono (by decide)) (by rfl) T.g__law_same T.F__law_same.kp T.b__law_same (pad_cons (ped_lst (pad_cons (ped_b1 (b1_sum (by rfl)) (by rfl) T.z_sum (by decide +kernel) (pd_var 22 (pv 22))) (pad_cons (ped_b1 (b1_sum (by rfl)) (by rfl) T.z_sum (by decide +kernel) (pd_var 23 (pv 23))) (pad_cons (pd_var 22 (pv 22)) (pad_cons (ped_call (ok_row_and_column_sums T) (hr.mono (by decide)) (by rfl) T.g_row_and_column_sums T.F_row_and_column_sums.kp T.b_row_and_column_sums (pad_cons (pd_var 26 (pv 26)) pad_nil)) pad_nil))))) (pad_cons (ped_lst (pad_cons (pd_var 24 (pv 24)) (pad_cons (pd_var 24 (pv 24)) (pad_cons (pd_var 25 (pv 25)) (pad_cons (ped_tup (pad_cons (pd_var 23 (pv 23)) (pad_cons (pd_var 22 (pv 22)) pad_nil))) pad_nil))))) pad_nil))))))))))))
  · have h2 : _ = some x := (if_pos (show ds.length + 1 = 3 from hl)).symm.trans h; exact h2
  · unfold m__law_parts_right at h; split at h; · assumption
    · cases h
theorem ok__law_alike_right (T : Txt K mg) : FnOk P w K mg base CX0 10 T.f__law_alike_right T.fd__law_alike_right ["rows", "columns", "number"] (spD K m__law_alike_right) := by
  refine fnD (k := 9) T.F__law_alike_right sc__law_alike_right b__law_alike_right (fun cdv A outer s H E hr => ?_) m__law_alike_right (fun ds hl x h => ?_) (fun ds x h => ?_)
  · exact (pssd_cons (psd_set (i := 3) sc__law_alike_right.nd (by rfl) (by first | exact .inl rfl | exact .inr rfl) (pd_bin f2_mul (ped_tup (pad_cons (pd_bin f2_mul (ped_tup (pad_cons (pd_var 2 (pv 2)) pad_nil)) (pd_var 1 (pv 1))) pad_nil)) (pd_var 0 (pv 0)))) (pssd_cons (psd_for PassesOwn.never (by rfl) (pid_seq (ped_tup (pad_cons pd_int (pad_cons pd_int (pad_cons pd_int (pad_cons pd_int (pad_cons (pd_bin f2_mul (pd_var 0 (pv 0)) (pd_var 1 (pv 1))) pad_nil))))))) (pgd_name (pgn sc__law_alike_right.nd 4)) (fb := l2__law_alike_right) (pssd_cons (psd_set (i := 5) sc__law_alike_right.nd (by rfl) (by first | exact .inl rfl | exact .inr rfl) pd_int) (pssd_cons (psd_for PassesOwn.never (by rfl) (PD.pid_range2 (by rfl) T.z_range pd_int (pd_bin f2_add (pd_var 0 (pv 0)) pd_int)) (pgd_name (pgn sc__law_alike_right.nd 6)) (fb := l1__law_alike_right) (pssd_cons (psd_set (i := 7) sc__law_alike_right.nd (by rfl) (by first | exact .inl rfl | exact .inr rfl) (pd_bin f2_div (pd_var 4 (pv 4)) (pd_var 6 (pv 6)))) (pssd_one (psd_if (PWD.pt (pwd_and (PD.pt_cmp (c2_eq hr.units) (pd_bin f2_mul (pd_var 7 (pv 7)) (pd_var 6 (pv 6))) (pd_var 4 (pv 4)) (by rfl)) (pwd_and1 (PD.pt_cmp c2_le (pd_var 7 (pv 7)) (pd_var 1 (pv 1)) (by rfl))))) (pssd_one (psd_set (i := 5) sc__law_alike_right.nd (by rfl) (by first | exact .inl rfl | exact .inr rfl) (pd_bin f2_add (pd_var 5 (pv 5)) (pd_bin f2_mul (pd_bin f2_add (pd_bin f2_sub (pd_var 0 (pv 0)) (pd_var 6 (pv 6))) pd_int) (pd_bin f2_add (pd_bin f2_sub (pd_var 1 (pv 1)) (pd_var 7 (pv 7))) pd_int))))) pssd_nil))) [6, 7]) (pssd_one (psd_if (ptd_not (pt_tru (ped_call (ok__law_same T 8) (hr.mono (by decide)) (by rfl) T.g__law_same T.F__law_same.kp T.b__law_same (pad_cons (ped_call (ok_count_with_sum T) (hr.mono (by decide)) (by rfl) T.g_count_with_sum T.F_count_with_sum.kp T.b_count_with_sum (pad_cons (pd_var 3 (pv 3)) (pad_cons (pd_bin f2_mul (pd_var 4 (pv 4)) (pd_var 2 (pv 2))) pad_nil))) (pad_cons (pd_var 5 (pv 5)) pad_nil))))) (pssd_one (psd_ret pd_bl)) pssd_nil)))) [4, 5, 6, 7]) (pssd_cons (psd_set (i := 8) sc__law_alike_right.nd (by rfl) (by first | exact .inl rfl | exact .inr rfl) (ped_if (PD.pt_cmp c2_gt (pd_var 2 (pv 2)) pd_int (by rfl)) (ped_tup (pad_cons (pd_bin f2_mul (pd_bin f2_mul (pd_var 0 (pv 0)) (pd_var 1 (pv 1))) (pd_var 2 (pv 2))) (pad_cons (ped_tup (pad_cons pd_int (pad_cons pd_int (pad_cons (pd_bin f2_sub (pd_var 0 (pv 0)) pd_int) (pad_cons (pd_bin f2_sub (pd_var 1 (pv 1)) pd_int) pad_nil))))) pad_nil))) (ped_tup (pad_cons (pd_var 2 (pv 2)) (pad_cons (ped_tup (pad_cons pd_int (pad_cons pd_int (pad_cons pd_int (pad_cons pd_int pad_nil))))) pad_nil))))) (pssd_one (psd_ret (ped_call (ok__law_same T 8) (hr.mono (by decide)) (by rfl) T.g__law_same T.F__law_same.kp T.b__law_same (pad_cons (ped_call (ok_greatest_sum T) (hr.mono (by decide)) (by rfl) T.g_greatest_sum T.F_greatest_sum.kp T.b_greatest_sum (pad_cons (pd_var 3 (pv 3)) pad_nil)) (pad_cons (pd_var 8 (pv 8)) pad_nil))))))))
  · have h2 : _ = some x := (if_pos (show ds.length = 3 from hl)).symm.trans h; exact h2
  · unfold m__law_alike_right at h; split at h; · assumption
    · cases h
theorem ok_law (T : Txt K mg) (hc : ∀ c : Int, 0 ≤ c → ∃ x y ρ, b__law_cup (En.only 2 1 (.sh (.int c))) = some (.rt (.fr (.list [.int x, .int y])) ρ) ∧ 0 ≤ x ∧ 0 ≤ y ∧ y < 10000000000)
    (hs : ∀ x y : Int, 0 ≤ x → 0 ≤ y → y < 10000000000 → ∃ ρ, b_law (En.only 7 1 (.own (.list [.int x, .int y]))) = some (.rt (.sh (.bool true)) ρ)) : FnOk P w K mg base CX0 11 T.f_law T.fd_law ["script"] (spLaw K) :=
  law_fn (k := 10) T.F_law sc_law 5 rfl b_law _ _ rfl (fun cdv A outer s H E hr => ⟨ps_set (i := 1) sc_law.nd (by rfl) (by first | exact .inl rfl | exact .inr rfl) (pe_call (ok__law_cup T hc) (hr.mono (by decide)) (by rfl) T.g__law_cup T.F__law_cup.kp T.b__law_cup .nil pass0 (pa_cons (pv 0) pa_nil)), (pssd_cons (psd_for PassesOwn.never (by rfl) (PD.pid_range1 (by rfl) T.z_range pd_int) (pgd_name (pgn sc_law.nd 2)) (fb := l1_law) (pssd_cons (psd_par2 (i := 3) (j := 4) (by rfl) sc_law.nd (by rfl) (by rfl) (by decide) (by rfl) (by rfl) (pad_cons (pd_bin f2_add pd_int (ped_callC (ok__law_roll T) (hr.mono (by decide)) (by rfl) T.g__law_roll T.F__law_roll.kp T.b__law_roll (pad_cons (pd_var 1 (pv 1)) (pad_cons pd_int pad_nil)))) (pad_cons (pd_bin f2_add pd_int (ped_callC (ok__law_roll T) (hr.mono (by decide)) (by rfl) T.g__law_roll T.F__law_roll.kp T.b__law_roll (pad_cons (pd_var 1 (pv 1)) (pad_cons pd_int pad_nil)))) pad_nil))) (pssd_cons (psd_par2 (i := 5) (j := 6) (by rfl) sc_law.nd (by rfl) (by rfl) (by decide) (by rfl) (by rfl) (pad_cons (ped_callC (ok__law_table T) (hr.mono (by decide)) (by rfl) T.g__law_table T.F__law_table.kp T.b__law_table (pad_cons (pd_var 1 (pv 1)) (pad_cons (pd_var 3 (pv 3)) (pad_cons (pd_var 4 (pv 4)) pad_nil)))) (pad_cons (ped_callC (ok__law_table T) (hr.mono (by decide)) (by rfl) T.g__law_table T.F__law_table.kp T.b__law_table (pad_cons (pd_var 1 (pv 1)) (pad_cons (pd_var 3 (pv 3)) (pad_cons (pd_var 4 (pv 4)) pad_nil)))) pad_nil))) (pssd_cons (psd_if (PWD.pt (pwd_or (ptd_not (pt_tru (ped_call (ok__law_counts_right T) (hr.mono (by decide)) (by rfl) T.g__law_counts_right T.F__law_counts_right.kp T.b__law_counts_right (pad_cons (pd_var 5 (pv 5)) pad_nil)))) (pwd_or1 (ptd_not (pt_tru (ped_callC (ok__law_parts_right T) (hr.mono (by decide)) (by rfl) T.g__law_parts_right T.F__law_parts_right.kp T.b__law_parts_right (pad_cons (pd_var 1 (pv 1)) (pad_cons (pd_var 5 (pv 5)) (pad_cons (pd_var 6 (pv 6)) pad_nil))))))))) (pssd_one (psd_ret pd_bl)) pssd_nil) (pssd_one (psd_if (ptd_not (pt_tru (ped_call (ok__law_alike_right T) (hr.mono (by decide)) (by rfl) T.g__law_alike_right T.F__law_alike_right.kp T.b__law_alike_right (pad_cons (pd_var 3 (pv 3)) (pad_cons (pd_var 4 (pv 4)) (pad_cons (ped_callC (ok__law_some T) (hr.mono (by decide)) (by rfl) T.g__law_some T.F__law_some.kp T.b__law_some (pad_cons (pd_var 1 (pv 1)) (pad_cons (ped_lst (pad_cons pd_int (pad_cons (ped_neg pd_int) (pad_cons pd_int (pad_cons (ped_neg pd_int) pad_nil))))) pad_nil))) pad_nil)))))) (pssd_one (psd_ret pd_bl)) pssd_nil))))) [2, 3, 4, 5, 6]) (pssd_one (psd_ret pd_bl)))⟩) hs
end
end
/-! ### the end -/
theorem all_mk {l : PySem.W.OpenLaw} {w : World} {K : PySem.W.Frag} {h : Heap} {mg : Str → Option Value} {fa x0 x1 x2 x3 x4 x5 x6 x7 x8 x9 x10 x11 x12 x13 x14 x15 x16 x17 x18 x19 x20 x21 x22 x23 x24 : Addr} (X : K.In h) (G : h.Ns mainGlobals mg) (hfa : mg "law" = some (.ref fa))
    {od0 an0 od1 an1 od2 an2 od3 an3 od4 an4 od5 an5 od6 an6 od7 an7 od8 an8 od9 an9 od10 an10 od11 an11 od12 an12 od13 an13 od14 an14 od15 an15 od16 an16 od17 an17 od18 an18 od19 an19 od20 an20 od21 an21 od22 an22 od23 an23 od24 an24 : Option Addr} {sl0 sl1 sl2 sl3 sl4 sl5 sl6 sl7 sl8 sl9 sl10 sl11 sl12 sl13 sl14 sl15 sl16 sl17 sl18 sl19 sl20 sl21 sl22 sl23 sl24 : Array (Option Value)} {oc0 kV0 dc0 pm0 cd0 ct0 oc1 kV1 dc1 pm1 cd1 ct1 oc2 kV2 dc2 pm2 cd2 ct2 oc3 kV3 dc3 pm3 cd3 ct3 oc4 kV4 dc4 pm4 cd4 ct4 oc5 kV5 dc5 pm5 cd5 ct5 oc6 kV6 dc6 pm6 cd6 ct6 oc7 kV7 dc7 pm7 cd7 ct7 oc8 kV8 dc8 pm8 cd8 ct8 oc9 kV9 dc9 pm9 cd9 ct9 oc10 kV10 dc10 pm10 cd10 ct10 oc11 kV11 dc11 pm11 cd11 ct11 oc12 kV12 dc12 pm12 cd12 ct12 oc13 kV13 dc13 pm13 cd13 ct13 oc14 kV14 dc14 pm14 cd14 ct14 oc15 kV15 dc15 pm15 cd15 ct15 oc16 kV16 dc16 pm16 cd16 ct16 oc17 kV17 dc17 pm17 cd17 ct17 oc18 kV18 dc18 pm18 cd18 ct18 oc19 kV19 dc19 pm19 cd19 ct19 oc20 kV20 dc20 pm20 cd20 ct20 oc21 kV21 dc21 pm21 cd21 ct21 oc22 kV22 dc22 pm22 cd22 ct22 oc23 kV23 dc23 pm23 cd23 ct23 oc24 kV24 dc24 pm24 cd24 ct24 : Value} {tk_GREATEST tk_SIDE : Tok}
    (hc : ∀ c : Int, 0 ≤ c → ∃ x y ρ, b__law_cup (En.only 2 1 (.sh (.int c))) = some (.rt (.fr (.list [.int x, .int y])) ρ) ∧ 0 ≤ x ∧ 0 ≤ y ∧ y < 10000000000)
    (hs : ∀ x y : Int, 0 ≤ x → 0 ≤ y → y < 10000000000 → ∃ ρ, b_law (En.only 7 1 (.own (.list [.int x, .int y]))) = some (.rt (.sh (.bool true)) ρ))
    (a0 : PySem.W.nsIn K mainGlobals "fits_whole" = some (some (.ref x0))) (l0 : K.lookup x0 = some ⟨oc0, od0, .func (PySem.W.fnOf "fits_whole" "fits_whole" (defArgs s_fits_whole) (defBody s_fits_whole) (defScope s_fits_whole) .none kV0 dc0 pm0 an0 cd0 ct0), sl0⟩) (c0 : PySem.W.codeIn K cd0 "fits_whole" = true) (k0 : PySem.W.keepIn K (.ref x0) = true)
    (a1 : PySem.W.nsIn K mainGlobals "is_tuple_of" = some (some (.ref x1))) (l1 : K.lookup x1 = some ⟨oc1, od1, .func (PySem.W.fnOf "is_tuple_of" "is_tuple_of" (defArgs s_is_tuple_of) (defBody s_is_tuple_of) (defScope s_is_tuple_of) .none kV1 dc1 pm1 an1 cd1 ct1), sl1⟩) (c1 : PySem.W.codeIn K cd1 "is_tuple_of" = true) (k1 : PySem.W.keepIn K (.ref x1) = true)
    (a2 : PySem.W.nsIn K mainGlobals "sums_in" = some (some (.ref x2))) (l2 : K.lookup x2 = some ⟨oc2, od2, .func (PySem.W.fnOf "sums_in" "sums_in" (defArgs s_sums_in) (defBody s_sums_in) (defScope s_sums_in) .none kV2 dc2 pm2 an2 cd2 ct2), sl2⟩) (c2 : PySem.W.codeIn K cd2 "sums_in" = true) (k2 : PySem.W.keepIn K (.ref x2) = true)
    (a3 : PySem.W.nsIn K mainGlobals "sum_by" = some (some (.ref x3))) (l3 : K.lookup x3 = some ⟨oc3, od3, .func (PySem.W.fnOf "sum_by" "sum_by" (defArgs s_sum_by) (defBody s_sum_by) (defScope s_sum_by) .none kV3 dc3 pm3 an3 cd3 ct3), sl3⟩) (c3 : PySem.W.codeIn K cd3 "sum_by" = true) (k3 : PySem.W.keepIn K (.ref x3) = true)
    (a4 : PySem.W.nsIn K mainGlobals "rectangles_in" = some (some (.ref x4))) (l4 : K.lookup x4 = some ⟨oc4, od4, .func (PySem.W.fnOf "rectangles_in" "rectangles_in" (defArgs s_rectangles_in) (defBody s_rectangles_in) (defScope s_rectangles_in) .none kV4 dc4 pm4 an4 cd4 ct4), sl4⟩) (c4 : PySem.W.codeIn K cd4 "rectangles_in" = true) (k4 : PySem.W.keepIn K (.ref x4) = true)
    (a5 : PySem.W.nsIn K mainGlobals "_law_cup" = some (some (.ref x5))) (l5 : K.lookup x5 = some ⟨oc5, od5, .func (PySem.W.fnOf "_law_cup" "_law_cup" (defArgs s__law_cup) (defBody s__law_cup) (defScope s__law_cup) .none kV5 dc5 pm5 an5 cd5 ct5), sl5⟩) (c5 : PySem.W.codeIn K cd5 "_law_cup" = true) (k5 : PySem.W.keepIn K (.ref x5) = true)
    (a6 : PySem.W.nsIn K mainGlobals "_law_roll" = some (some (.ref x6))) (l6 : K.lookup x6 = some ⟨oc6, od6, .func (PySem.W.fnOf "_law_roll" "_law_roll" (defArgs s__law_roll) (defBody s__law_roll) (defScope s__law_roll) .none kV6 dc6 pm6 an6 cd6 ct6), sl6⟩) (c6 : PySem.W.codeIn K cd6 "_law_roll" = true) (k6 : PySem.W.keepIn K (.ref x6) = true)
    (a7 : PySem.W.nsIn K mainGlobals "_law_rectangles" = some (some (.ref x7))) (l7 : K.lookup x7 = some ⟨oc7, od7, .func (PySem.W.fnOf "_law_rectangles" "_law_rectangles" (defArgs s__law_rectangles) (defBody s__law_rectangles) (defScope s__law_rectangles) .none kV7 dc7 pm7 an7 cd7 ct7), sl7⟩) (c7 : PySem.W.codeIn K cd7 "_law_rectangles" = true) (k7 : PySem.W.keepIn K (.ref x7) = true)
    (a8 : PySem.W.nsIn K mainGlobals "_law_each" = some (some (.ref x8))) (l8 : K.lookup x8 = some ⟨oc8, od8, .func (PySem.W.fnOf "_law_each" "_law_each" (defArgs s__law_each) (defBody s__law_each) (defScope s__law_each) .none kV8 dc8 pm8 an8 cd8 ct8), sl8⟩) (c8 : PySem.W.codeIn K cd8 "_law_each" = true) (k8 : PySem.W.keepIn K (.ref x8) = true)
    (a9 : PySem.W.nsIn K mainGlobals "fits_table" = some (some (.ref x9))) (l9 : K.lookup x9 = some ⟨oc9, od9, .func (PySem.W.fnOf "fits_table" "fits_table" (defArgs s_fits_table) (defBody s_fits_table) (defScope s_fits_table) .none kV9 dc9 pm9 an9 cd9 ct9), sl9⟩) (c9 : PySem.W.codeIn K cd9 "fits_table" = true) (k9 : PySem.W.keepIn K (.ref x9) = true)
    (a10 : PySem.W.nsIn K mainGlobals "fits_place" = some (some (.ref x10))) (l10 : K.lookup x10 = some ⟨oc10, od10, .func (PySem.W.fnOf "fits_place" "fits_place" (defArgs s_fits_place) (defBody s_fits_place) (defScope s_fits_place) .none kV10 dc10 pm10 an10 cd10 ct10), sl10⟩) (c10 : PySem.W.codeIn K cd10 "fits_place" = true) (k10 : PySem.W.keepIn K (.ref x10) = true)
    (a11 : PySem.W.nsIn K mainGlobals "_law_some" = some (some (.ref x11))) (l11 : K.lookup x11 = some ⟨oc11, od11, .func (PySem.W.fnOf "_law_some" "_law_some" (defArgs s__law_some) (defBody s__law_some) (defScope s__law_some) .none kV11 dc11 pm11 an11 cd11 ct11), sl11⟩) (c11 : PySem.W.codeIn K cd11 "_law_some" = true) (k11 : PySem.W.keepIn K (.ref x11) = true)
    (a12 : PySem.W.nsIn K mainGlobals "need_table" = some (some (.ref x12))) (l12 : K.lookup x12 = some ⟨oc12, od12, .func (PySem.W.fnOf "need_table" "need_table" (defArgs s_need_table) (defBody s_need_table) (defScope s_need_table) .none kV12 dc12 pm12 an12 cd12 ct12), sl12⟩) (c12 : PySem.W.codeIn K cd12 "need_table" = true) (k12 : PySem.W.keepIn K (.ref x12) = true)
    (a13 : PySem.W.nsIn K mainGlobals "fits_rectangle" = some (some (.ref x13))) (l13 : K.lookup x13 = some ⟨oc13, od13, .func (PySem.W.fnOf "fits_rectangle" "fits_rectangle" (defArgs s_fits_rectangle) (defBody s_fits_rectangle) (defScope s_fits_rectangle) .none kV13 dc13 pm13 an13 cd13 ct13), sl13⟩) (c13 : PySem.W.codeIn K cd13 "fits_rectangle" = true) (k13 : PySem.W.keepIn K (.ref x13) = true)
    (a14 : PySem.W.nsIn K mainGlobals "is_table" = some (some (.ref x14))) (l14 : K.lookup x14 = some ⟨oc14, od14, .func (PySem.W.fnOf "is_table" "is_table" (defArgs s_is_table) (defBody s_is_table) (defScope s_is_table) .none kV14 dc14 pm14 an14 cd14 ct14), sl14⟩) (c14 : PySem.W.codeIn K cd14 "is_table" = true) (k14 : PySem.W.keepIn K (.ref x14) = true)
    (a15 : PySem.W.nsIn K mainGlobals "_law_table" = some (some (.ref x15))) (l15 : K.lookup x15 = some ⟨oc15, od15, .func (PySem.W.fnOf "_law_table" "_law_table" (defArgs s__law_table) (defBody s__law_table) (defScope s__law_table) .none kV15 dc15 pm15 an15 cd15 ct15), sl15⟩) (c15 : PySem.W.codeIn K cd15 "_law_table" = true) (k15 : PySem.W.keepIn K (.ref x15) = true)
    (a16 : PySem.W.nsIn K mainGlobals "sum_of" = some (some (.ref x16))) (l16 : K.lookup x16 = some ⟨oc16, od16, .func (PySem.W.fnOf "sum_of" "sum_of" (defArgs s_sum_of) (defBody s_sum_of) (defScope s_sum_of) .none kV16 dc16 pm16 an16 cd16 ct16), sl16⟩) (c16 : PySem.W.codeIn K cd16 "sum_of" = true) (k16 : PySem.W.keepIn K (.ref x16) = true)
    (a17 : PySem.W.nsIn K mainGlobals "greatest_sum" = some (some (.ref x17))) (l17 : K.lookup x17 = some ⟨oc17, od17, .func (PySem.W.fnOf "greatest_sum" "greatest_sum" (defArgs s_greatest_sum) (defBody s_greatest_sum) (defScope s_greatest_sum) .none kV17 dc17 pm17 an17 cd17 ct17), sl17⟩) (c17 : PySem.W.codeIn K cd17 "greatest_sum" = true) (k17 : PySem.W.keepIn K (.ref x17) = true)
    (a18 : PySem.W.nsIn K mainGlobals "count_with_sum" = some (some (.ref x18))) (l18 : K.lookup x18 = some ⟨oc18, od18, .func (PySem.W.fnOf "count_with_sum" "count_with_sum" (defArgs s_count_with_sum) (defBody s_count_with_sum) (defScope s_count_with_sum) .none kV18 dc18 pm18 an18 cd18 ct18), sl18⟩) (c18 : PySem.W.codeIn K cd18 "count_with_sum" = true) (k18 : PySem.W.keepIn K (.ref x18) = true)
    (a19 : PySem.W.nsIn K mainGlobals "row_and_column_sums" = some (some (.ref x19))) (l19 : K.lookup x19 = some ⟨oc19, od19, .func (PySem.W.fnOf "row_and_column_sums" "row_and_column_sums" (defArgs s_row_and_column_sums) (defBody s_row_and_column_sums) (defScope s_row_and_column_sums) .none kV19 dc19 pm19 an19 cd19 ct19), sl19⟩) (c19 : PySem.W.codeIn K cd19 "row_and_column_sums" = true) (k19 : PySem.W.keepIn K (.ref x19) = true)
    (a20 : PySem.W.nsIn K mainGlobals "_law_same" = some (some (.ref x20))) (l20 : K.lookup x20 = some ⟨oc20, od20, .func (PySem.W.fnOf "_law_same" "_law_same" (defArgs s__law_same) (defBody s__law_same) (defScope s__law_same) .none kV20 dc20 pm20 an20 cd20 ct20), sl20⟩) (c20 : PySem.W.codeIn K cd20 "_law_same" = true) (k20 : PySem.W.keepIn K (.ref x20) = true)
    (a21 : PySem.W.nsIn K mainGlobals "_law_counts_right" = some (some (.ref x21))) (l21 : K.lookup x21 = some ⟨oc21, od21, .func (PySem.W.fnOf "_law_counts_right" "_law_counts_right" (defArgs s__law_counts_right) (defBody s__law_counts_right) (defScope s__law_counts_right) .none kV21 dc21 pm21 an21 cd21 ct21), sl21⟩) (c21 : PySem.W.codeIn K cd21 "_law_counts_right" = true) (k21 : PySem.W.keepIn K (.ref x21) = true)
    (a22 : PySem.W.nsIn K mainGlobals "_law_parts_right" = some (some (.ref x22))) (l22 : K.lookup x22 = some ⟨oc22, od22, .func (PySem.W.fnOf "_law_parts_right" "_law_parts_right" (defArgs s__law_parts_right) (defBody s__law_parts_right) (defScope s__law_parts_right) .none kV22 dc22 pm22 an22 cd22 ct22), sl22⟩) (c22 : PySem.W.codeIn K cd22 "_law_parts_right" = true) (k22 : PySem.W.keepIn K (.ref x22) = true)
    (a23 : PySem.W.nsIn K mainGlobals "_law_alike_right" = some (some (.ref x23))) (l23 : K.lookup x23 = some ⟨oc23, od23, .func (PySem.W.fnOf "_law_alike_right" "_law_alike_right" (defArgs s__law_alike_right) (defBody s__law_alike_right) (defScope s__law_alike_right) .none kV23 dc23 pm23 an23 cd23 ct23), sl23⟩) (c23 : PySem.W.codeIn K cd23 "_law_alike_right" = true) (k23 : PySem.W.keepIn K (.ref x23) = true)
    (a24 : PySem.W.nsIn K mainGlobals "law" = some (some (.ref x24))) (l24 : K.lookup x24 = some ⟨oc24, od24, .func (PySem.W.fnOf "law" "law" (defArgs s_law) (defBody s_law) (defScope s_law) .none kV24 dc24 pm24 an24 cd24 ct24), sl24⟩) (c24 : PySem.W.codeIn K cd24 "law" = true) (k24 : PySem.W.keepIn K (.ref x24) = true)
    (z_abs : PySem.W.nsIn K mainGlobals "abs" = some none)
    (z_all : PySem.W.nsIn K mainGlobals "all" = some none)
    (z_bool : PySem.W.nsIn K mainGlobals "bool" = some none)
    (z_dict : PySem.W.nsIn K mainGlobals "dict" = some none)
    (z_enumerate : PySem.W.nsIn K mainGlobals "enumerate" = some none)
    (z_int : PySem.W.nsIn K mainGlobals "int" = some none)
    (z_isinstance : PySem.W.nsIn K mainGlobals "isinstance" = some none)
    (z_len : PySem.W.nsIn K mainGlobals "len" = some none)
    (z_list : PySem.W.nsIn K mainGlobals "list" = some none)
    (z_max : PySem.W.nsIn K mainGlobals "max" = some none)
    (z_min : PySem.W.nsIn K mainGlobals "min" = some none)
    (z_range : PySem.W.nsIn K mainGlobals "range" = some none)
    (z_str : PySem.W.nsIn K mainGlobals "str" = some none)
    (z_sum : PySem.W.nsIn K mainGlobals "sum" = some none)
    (z_tuple : PySem.W.nsIn K mainGlobals "tuple" = some none)
    (z_zip : PySem.W.nsIn K mainGlobals "zip" = some none)
    (g_GREATEST : PySem.W.nsIn K mainGlobals "GREATEST" = some (some (.int (1000000) tk_GREATEST)))
    (g_SIDE : PySem.W.nsIn K mainGlobals "SIDE" = some (some (.int (20) tk_SIDE)))
    : ∃ fd : FuncData, (∀ (s : Shared) (v : Value), BindsTo s fd ⟨[v], []⟩ [("script", v)]) ∧ ∀ base : Heap, K.In base → base.Ns mainGlobals mg → FnOk l.prog w K mg base CX0 11 fa fd ["script"] (spLaw K) := by
  have e := hfa.symm.trans (PySem.W.mg_of X G a24)
  cases e
  have F0 := fun_mk (st := s_fits_whole) l0 c0 k0
  have B0 := F0.binds (ps := ["value", "low", "high"]) fun _ _ _ _ _ _ us hl => match us, hl with | [_, _, _], _ => rfl
  have F1 := fun_mk (st := s_is_tuple_of) l1 c1 k1
  have B1 := F1.binds (ps := ["value", "least", "most"]) fun _ _ _ _ _ _ us hl => match us, hl with | [_, _, _], _ => rfl
  have F2 := fun_mk (st := s_sums_in) l2 c2 k2
  have B2 := F2.binds (ps := ["table"]) fun _ _ _ _ _ _ us hl => match us, hl with | [_], _ => rfl
  have F3 := fun_mk (st := s_sum_by) l3 c3 k3
  have B3 := F3.binds (ps := ["sums", "one"]) fun _ _ _ _ _ _ us hl => match us, hl with | [_, _], _ => rfl
  have F4 := fun_mk (st := s_rectangles_in) l4 c4 k4
  have B4 := F4.binds (ps := ["table"]) fun _ _ _ _ _ _ us hl => match us, hl with | [_], _ => rfl
  have F5 := fun_mk (st := s__law_cup) l5 c5 k5
  have B5 := F5.binds (ps := ["script"]) fun _ _ _ _ _ _ us hl => match us, hl with | [_], _ => rfl
  have F6 := fun_mk (st := s__law_roll) l6 c6 k6
  have B6 := F6.binds (ps := ["cup", "many"]) fun _ _ _ _ _ _ us hl => match us, hl with | [_, _], _ => rfl
  have F7 := fun_mk (st := s__law_rectangles) l7 c7 k7
  have B7 := F7.binds (ps := ["rows", "columns"]) fun _ _ _ _ _ _ us hl => match us, hl with | [_, _], _ => rfl
  have F8 := fun_mk (st := s__law_each) l8 c8 k8
  have B8 := F8.binds (ps := ["table", "times"]) fun _ _ _ _ _ _ us hl => match us, hl with | [_, _], _ => rfl
  have F9 := fun_mk (st := s_fits_table) l9 c9 k9
  have B9 := F9.binds (ps := ["value", "low"]) fun _ _ _ _ _ _ us hl => match us, hl with | [_, _], _ => rfl
  have F10 := fun_mk (st := s_fits_place) l10 c10 k10
  have B10 := F10.binds (ps := ["table", "value"]) fun _ _ _ _ _ _ us hl => match us, hl with | [_, _], _ => rfl
  have F11 := fun_mk (st := s__law_some) l11 c11 k11
  have B11 := F11.binds (ps := ["cup", "things"]) fun _ _ _ _ _ _ us hl => match us, hl with | [_, _], _ => rfl
  have F12 := fun_mk (st := s_need_table) l12 c12 k12
  have B12 := F12.binds (ps := ["table"]) fun _ _ _ _ _ _ us hl => match us, hl with | [_], _ => rfl
  have F13 := fun_mk (st := s_fits_rectangle) l13 c13 k13
  have B13 := F13.binds (ps := ["table", "value"]) fun _ _ _ _ _ _ us hl => match us, hl with | [_, _], _ => rfl
  have F14 := fun_mk (st := s_is_table) l14 c14 k14
  have B14 := F14.binds (ps := ["value"]) fun _ _ _ _ _ _ us hl => match us, hl with | [_], _ => rfl
  have F15 := fun_mk (st := s__law_table) l15 c15 k15
  have B15 := F15.binds (ps := ["cup", "rows", "columns"]) fun _ _ _ _ _ _ us hl => match us, hl with | [_, _, _], _ => rfl
  have F16 := fun_mk (st := s_sum_of) l16 c16 k16
  have B16 := F16.binds (ps := ["table", "rectangle"]) fun _ _ _ _ _ _ us hl => match us, hl with | [_, _], _ => rfl
  have F17 := fun_mk (st := s_greatest_sum) l17 c17 k17
  have B17 := F17.binds (ps := ["table"]) fun _ _ _ _ _ _ us hl => match us, hl with | [_], _ => rfl
  have F18 := fun_mk (st := s_count_with_sum) l18 c18 k18
  have B18 := F18.binds (ps := ["table", "number"]) fun _ _ _ _ _ _ us hl => match us, hl with | [_, _], _ => rfl
  have F19 := fun_mk (st := s_row_and_column_sums) l19 c19 k19
  have B19 := F19.binds (ps := ["table"]) fun _ _ _ _ _ _ us hl => match us, hl with | [_], _ => rfl
  have F20 := fun_mk (st := s__law_same) l20 c20 k20
  have B20 := F20.binds (ps := ["told", "due"]) fun _ _ _ _ _ _ us hl => match us, hl with | [_, _], _ => rfl
  have F21 := fun_mk (st := s__law_counts_right) l21 c21 k21
  have B21 := F21.binds (ps := ["table"]) fun _ _ _ _ _ _ us hl => match us, hl with | [_], _ => rfl
  have F22 := fun_mk (st := s__law_parts_right) l22 c22 k22
  have B22 := F22.binds (ps := ["cup", "table", "other"]) fun _ _ _ _ _ _ us hl => match us, hl with | [_, _, _], _ => rfl
  have F23 := fun_mk (st := s__law_alike_right) l23 c23 k23
  have B23 := F23.binds (ps := ["rows", "columns", "number"]) fun _ _ _ _ _ _ us hl => match us, hl with | [_, _, _], _ => rfl
  have F24 := fun_mk (st := s_law) l24 c24 k24
  have B24 := F24.binds (ps := ["script"]) fun _ _ _ _ _ _ us hl => match us, hl with | [_], _ => rfl
  exact ⟨_, fun s v => .of_eq rfl, fun base _ _ => ok_law {
      f_fits_whole := _, fd_fits_whole := _, F_fits_whole := F0, b_fits_whole := B0, g_fits_whole := PySem.W.mg_of X G a0,
      f_is_tuple_of := _, fd_is_tuple_of := _, F_is_tuple_of := F1, b_is_tuple_of := B1, g_is_tuple_of := PySem.W.mg_of X G a1,
      f_sums_in := _, fd_sums_in := _, F_sums_in := F2, b_sums_in := B2, g_sums_in := PySem.W.mg_of X G a2,
      f_sum_by := _, fd_sum_by := _, F_sum_by := F3, b_sum_by := B3, g_sum_by := PySem.W.mg_of X G a3,
      f_rectangles_in := _, fd_rectangles_in := _, F_rectangles_in := F4, b_rectangles_in := B4, g_rectangles_in := PySem.W.mg_of X G a4,
      f__law_cup := _, fd__law_cup := _, F__law_cup := F5, b__law_cup := B5, g__law_cup := PySem.W.mg_of X G a5,
      f__law_roll := _, fd__law_roll := _, F__law_roll := F6, b__law_roll := B6, g__law_roll := PySem.W.mg_of X G a6,
      f__law_rectangles := _, fd__law_rectangles := _, F__law_rectangles := F7, b__law_rectangles := B7, g__law_rectangles := PySem.W.mg_of X G a7,
      f__law_each := _, fd__law_each := _, F__law_each := F8, b__law_each := B8, g__law_each := PySem.W.mg_of X G a8,
      f_fits_table := _, fd_fits_table := _, F_fits_table := F9, b_fits_table := B9, g_fits_table := PySem.W.mg_of X G a9,
      f_fits_place := _, fd_fits_place := _, F_fits_place := F10, b_fits_place := B10, g_fits_place := PySem.W.mg_of X G a10,
      f__law_some := _, fd__law_some := _, F__law_some := F11, b__law_some := B11, g__law_some := PySem.W.mg_of X G a11,
      f_need_table := _, fd_need_table := _, F_need_table := F12, b_need_table := B12, g_need_table := PySem.W.mg_of X G a12,
      f_fits_rectangle := _, fd_fits_rectangle := _, F_fits_rectangle := F13, b_fits_rectangle := B13, g_fits_rectangle := PySem.W.mg_of X G a13,
      f_is_table := _, fd_is_table := _, F_is_table := F14, b_is_table := B14, g_is_table := PySem.W.mg_of X G a14,
      f__law_table := _, fd__law_table := _, F__law_table := F15, b__law_table := B15, g__law_table := PySem.W.mg_of X G a15,
      f_sum_of := _, fd_sum_of := _, F_sum_of := F16, b_sum_of := B16, g_sum_of := PySem.W.mg_of X G a16,
      f_greatest_sum := _, fd_greatest_sum := _, F_greatest_sum := F17, b_greatest_sum := B17, g_greatest_sum := PySem.W.mg_of X G a17,
      f_count_with_sum := _, fd_count_with_sum := _, F_count_with_sum := F18, b_count_with_sum := B18, g_count_with_sum := PySem.W.mg_of X G a18,
      f_row_and_column_sums := _, fd_row_and_column_sums := _, F_row_and_column_sums := F19, b_row_and_column_sums := B19, g_row_and_column_sums := PySem.W.mg_of X G a19,
      f__law_same := _, fd__law_same := _, F__law_same := F20, b__law_same := B20, g__law_same := PySem.W.mg_of X G a20,
      f__law_counts_right := _, fd__law_counts_right := _, F__law_counts_right := F21, b__law_counts_right := B21, g__law_counts_right := PySem.W.mg_of X G a21,
      f__law_parts_right := _, fd__law_parts_right := _, F__law_parts_right := F22, b__law_parts_right := B22, g__law_parts_right := PySem.W.mg_of X G a22,
      f__law_alike_right := _, fd__law_alike_right := _, F__law_alike_right := F23, b__law_alike_right := B23, g__law_alike_right := PySem.W.mg_of X G a23,
      f_law := _, fd_law := _, F_law := F24, b_law := B24, g_law := PySem.W.mg_of X G a24,
      z_abs := PySem.W.mg_none_of X G z_abs,
      z_all := PySem.W.mg_none_of X G z_all,
      z_bool := PySem.W.mg_none_of X G z_bool,
      z_dict := PySem.W.mg_none_of X G z_dict,
      z_enumerate := PySem.W.mg_none_of X G z_enumerate,
      z_int := PySem.W.mg_none_of X G z_int,
      z_isinstance := PySem.W.mg_none_of X G z_isinstance,
      z_len := PySem.W.mg_none_of X G z_len,
      z_list := PySem.W.mg_none_of X G z_list,
      z_max := PySem.W.mg_none_of X G z_max,
      z_min := PySem.W.mg_none_of X G z_min,
      z_range := PySem.W.mg_none_of X G z_range,
      z_str := PySem.W.mg_none_of X G z_str,
      z_sum := PySem.W.mg_none_of X G z_sum,
      z_tuple := PySem.W.mg_none_of X G z_tuple,
      z_zip := PySem.W.mg_none_of X G z_zip,
      t_GREATEST := tk_GREATEST, g_GREATEST := PySem.W.mg_of X G g_GREATEST,
      t_SIDE := tk_SIDE, g_SIDE := PySem.W.mg_of X G g_SIDE } hc hs⟩

end PD.K47
set_option Elab.async false
set_option linter.all false
set_option maxRecDepth 100000
set_option maxHeartbeats 4000000
namespace PD.K47
set_option autoImplicit false
open PySem PySem.Spec L2 PD
open PyProof.Rows hiding St
local macro_rules | `(tactic| walk_at "pd") => `(tactic| simp only [dC, dVar, dBin, dCmp_ap, dCmpT, wB, dChainT, dOfT, dTruT, dAndT, dOrT, dNotT, dAndV, dOrV, dNotV, dIf, dNeg, dNil, dCons, gives, give_vr, give_sh, give_fr, get_sh, get_fr, get_vr, En.at, En.with, Sl.d, dTup, dLst, dCut, dNo, dPart, bCut, dNx, dSeq, dIfS, dRet, dRetN, dBk, dCt, dDrop, dStIx, set_l0, set_l1, gN, gCons, gTup, gNil, dSet, dPar, dUnp, settle, puts, En.put, En.set, dItems, dRg1, dRg2, itemsOf, dB1, semOf, slots, endOf, dCall, gets, light_f, light_t, wOf_f, wOf_t, is_nn, is_bn, is_in, is_sn, is_ln, is_tn, is_bb, isn_nn, isn_bn, isn_in, isn_sn, isn_ln, isn_tn, isn_bb, tyD_list, tyD_dict, eq_self, imm_none, imm_bool, imm_int, imm_str, imm_tup, imm_list, imms_nil, imms_cons, inner_list,
  isi_int, isi_bool, isi_tuple, isi_list, isi_str, isi_dict, isInt, isBool, isTup, isLst, isStr, isDic, En.wipe, wipeS, restoreS, dMut, En.mine, En.own, dEnum, dZip, tru_none, tru_bool, tru_int, tru_list, tru_tup, len_list, len_tup, len_dict, PD.add_int, PD.sub_int, int_int, abs_int, le_int, lt_int, gt_int, ge_int, PD.eq_int, PD.ne_int, PD.ne_bool, PD.eq_bool, PD.eq_nil, ix_tup0, ix_tup1, ix_tup2, ix_tup3, ix_list0, ix_list1, tup_list, tup_tup, lst_list, lst_tup, dCallC, notVr, semC,
  Option.bind_some, Option.map_some, Option.bind_none, Option.map_none, List.getElem?_cons_zero, List.getElem?_cons_succ, List.length_cons, List.length_nil, List.map_cons, List.map_nil, List.replicate, List.append_nil, List.nil_append, List.cons_append, List.set_cons_zero, List.set_cons_succ, List.all_cons, List.all_nil, Nat.sub_self, Nat.reduceAdd, Nat.reduceSub, Nat.reduceLT, Nat.reduceEqDiff, List.mem_cons, List.not_mem_nil,  Nat.reduceLeDiff, if_true, if_false, reduceIte, ite_self, Bool.false_eq_true, Bool.not_true, Bool.not_false, decide_true, decide_false, Option.getD_some, Option.getD_none, Bool.true_and, Bool.and_true, Bool.false_and, Bool.and_false, false_and, and_false, true_and, and_true, not_true_eq_false, not_false_eq_true, or_self, or_false, false_or, List.isEmpty_cons, List.isEmpty_nil, Nat.zero_ne_one])
local macro_rules | `(tactic| walk_at "pd*") => `(tactic| simp only [dC, dVar, dBin, dCmp_ap, dCmpT, wB, dChainT, dOfT, dTruT, dAndT, dOrT, dNotT, dAndV, dOrV, dNotV, dIf, dNeg, dNil, dCons, gives, give_vr, give_sh, give_fr, get_sh, get_fr, get_vr, En.at, En.with, Sl.d, dTup, dLst, dCut, dNo, dPart, bCut, dNx, dSeq, dIfS, dRet, dRetN, dBk, dCt, dDrop, dStIx, set_l0, set_l1, gN, gCons, gTup, gNil, dSet, dPar, dUnp, settle, puts, En.put, En.set, dItems, dRg1, dRg2, itemsOf, dB1, semOf, slots, endOf, dCall, gets, light_f, light_t, wOf_f, wOf_t, is_nn, is_bn, is_in, is_sn, is_ln, is_tn, is_bb, isn_nn, isn_bn, isn_in, isn_sn, isn_ln, isn_tn, isn_bb, tyD_list, tyD_dict, eq_self, imm_none, imm_bool, imm_int, imm_str, imm_tup, imm_list, imms_nil, imms_cons, inner_list,
  isi_int, isi_bool, isi_tuple, isi_list, isi_str, isi_dict, isInt, isBool, isTup, isLst, isStr, isDic, En.wipe, wipeS, restoreS, dMut, En.mine, En.own, dEnum, dZip, tru_none, tru_bool, tru_int, tru_list, tru_tup, len_list, len_tup, len_dict, PD.add_int, PD.sub_int, int_int, abs_int, le_int, lt_int, gt_int, ge_int, PD.eq_int, PD.ne_int, PD.ne_bool, PD.eq_bool, PD.eq_nil, ix_tup0, ix_tup1, ix_tup2, ix_tup3, ix_list0, ix_list1, tup_list, tup_tup, lst_list, lst_tup, dCallC, notVr, semC,
  Option.bind_some, Option.map_some, Option.bind_none, Option.map_none, List.getElem?_cons_zero, List.getElem?_cons_succ, List.length_cons, List.length_nil, List.map_cons, List.map_nil, List.replicate, List.append_nil, List.nil_append, List.cons_append, List.set_cons_zero, List.set_cons_succ, List.all_cons, List.all_nil, Nat.sub_self, Nat.reduceAdd, Nat.reduceSub, Nat.reduceLT, Nat.reduceEqDiff, List.mem_cons, List.not_mem_nil,  Nat.reduceLeDiff, if_true, if_false, reduceIte, ite_self, Bool.false_eq_true, Bool.not_true, Bool.not_false, decide_true, decide_false, Option.getD_some, Option.getD_none, Bool.true_and, Bool.and_true, Bool.false_and, Bool.and_false, false_and, and_false, true_and, and_true, not_true_eq_false, not_false_eq_true, or_self, or_false, false_or, List.isEmpty_cons, List.isEmpty_nil, Nat.zero_ne_one, *])
/-! ### the data -/
abbrev Tab := List (List Int)
def rowD (r : List Int) : D := .tuple (r.map .int)
def tabD (T : Tab) : D := .tuple (T.map rowD)
structure Fits (T : Tab) (R C : Nat) : Prop where
  r : T.length = R
  c : ∀ row ∈ T, row.length = C
  r1 : 1 ≤ R
  r2 : R ≤ 5
  c1 : 1 ≤ C
  c2 : C ≤ 5
  e : ∀ row ∈ T, ∀ x ∈ row, -1000000 ≤ x ∧ x ≤ 1000000
theorem Fits.get {T : Tab} {R C i : Nat} (h : Fits T R C) (hi : i < R) : ∃ row, T[i]? = some row ∧ row.length = C ∧ row ∈ T := by
  have hl := h.r
  have hi' : i < T.length := by omega
  exact ⟨T[i], List.getElem?_eq_getElem hi', h.c _ (List.getElem_mem hi'), List.getElem_mem hi'⟩
theorem Fits.row0 {T : Tab} {R C : Nat} (h : Fits T R C) : ∃ r0 rs, T = r0 :: rs ∧ r0.length = C := by
  cases T with
  | nil => have := h.r; have := h.r1; simp at *; omega
  | cons r0 rs => exact ⟨r0, rs, rfl, h.c r0 List.mem_cons_self⟩
theorem imm_row (r : List Int) : imm (rowD r) = true := imms_map_int r
theorem imm_tab (T : Tab) : imm (tabD T) = true := imms_map imm_row T
theorem d_is_tuple_of (xs : List D) (a b : Int) : m_is_tuple_of [.tuple xs, .int a, .int b] = some (false, .bool (decide (a ≤ (xs.length : Int) ∧ (xs.length : Int) ≤ b))) := by
  unfold m_is_tuple_of b_is_tuple_of
  walk_at "pd"
  by_cases h : a ≤ (xs.length : Int) <;> simp only [h] <;> walk_at "pd"
theorem d_fits_whole (v a b : Int) : m_fits_whole [.int v, .int a, .int b] = some (false, .bool (decide (a ≤ v ∧ v ≤ b))) := by
  unfold m_fits_whole b_fits_whole
  walk_at "pd"
  by_cases h : a ≤ v <;> simp only [h] <;> walk_at "pd"
theorem d_fits_table {T : Tab} {R C : Nat} (h : Fits T R C) : m_fits_table [tabD T, .int (-1000000)] = some (false, .bool true) := by
  have hl := h.r
  have hr1 := h.r1
  have hr2 := h.r2
  have hc1 := h.c1
  have hc2 := h.c2
  obtain ⟨r0, rs, e0, l0⟩ := h.row0
  have a1 : dLc (dItems (dVar 0)) (gN 2) dYes (dCall m_is_tuple_of (dCons (dVar 2) (dCons (dC (.int 1)) (dCons (dC (.int (20))) dNil)))) [2] ⟨false, [some (.sh (tabD T)), some (.sh (.int (-1000000))), none, none]⟩ = some (.fr (.list (T.map fun _ => .bool true)), ⟨false, [some (.sh (tabD T)), some (.sh (.int (-1000000))), none, none]⟩) := by
    refine dLc_sh (emb := rowD) _ T (by unfold tabD; walk_at "pd") rfl (by omega) (fun row hr => ?_)
    have := h.c row hr
    unfold En.with rowD
    walk_at "pd"
    rw [d_is_tuple_of, decide_eq_true (by rw [List.length_map]; omega)]
    walk_at "pd"
  have a2 : dLc (dItems (dVar 0)) (gN 2) dYes (dCmp cEq (dB1 bLen (dVar 2)) (dB1 bLen (dBin bIx (dVar 0) (dC (.int 0))))) [2] ⟨false, [some (.sh (tabD T)), some (.sh (.int (-1000000))), none, none]⟩ = some (.fr (.list (T.map fun _ => .bool true)), ⟨false, [some (.sh (tabD T)), some (.sh (.int (-1000000))), none, none]⟩) := by
    refine dLc_sh (emb := rowD) _ T (by unfold tabD; walk_at "pd") rfl (by omega) (fun row hr => ?_)
    have := h.c row hr
    rw [e0]
    unfold En.with tabD rowD
    walk_at "pd"
    rw [List.length_map, List.length_map, decide_eq_true (by omega)]
  have a3 : dLc (dItems (dVar 0)) (gN 2) dYes (dB1 bAll (dLc (dItems (dVar 2)) (gN 3) dYes (dCall m_fits_whole (dCons (dVar 3) (dCons (dVar 1) (dCons (dC (.int (1000000))) dNil)))) [3])) [2] ⟨false, [some (.sh (tabD T)), some (.sh (.int (-1000000))), none, none]⟩ = some (.fr (.list (T.map fun _ => .bool true)), ⟨false, [some (.sh (tabD T)), some (.sh (.int (-1000000))), none, none]⟩) := by
    refine dLc_sh (emb := rowD) _ T (by unfold tabD; walk_at "pd") rfl (by omega) (fun row hr => ?_)
    have := h.c row hr
    have b1 : dLc (dItems (dVar 2)) (gN 3) dYes (dCall m_fits_whole (dCons (dVar 3) (dCons (dVar 1) (dCons (dC (.int (1000000))) dNil)))) [3] ⟨false, [some (.sh (tabD T)), some (.sh (.int (-1000000))), some (.sh (rowD row)), none]⟩ = some (.fr (.list (row.map fun _ => .bool true)), ⟨false, [some (.sh (tabD T)), some (.sh (.int (-1000000))), some (.sh (rowD row)), none]⟩) := by
      refine dLc_sh (emb := PyData.int) _ row (by unfold rowD; walk_at "pd") rfl (by omega) (fun x hx => ?_)
      have := h.e row hr x hx
      unfold En.with
      walk_at "pd"
      rw [d_fits_whole, decide_eq_true this]
      walk_at "pd"
    unfold En.with
    walk_at "pd"
    rw [b1]
    walk_at "pd"
    rw [bAll_true fun _ _ => rfl]
    walk_at "pd"
  have e1 : m_is_tuple_of [tabD T, .int 1, .int 20] = some (false, .bool true) := by
    unfold tabD
    rw [d_is_tuple_of, decide_eq_true (by rw [List.length_map]; omega)]
  unfold m_fits_table b_fits_table
  have i0 := imm_tab T
  walk_at "pd"
  simp only [e1, Option.bind_some, imm, reduceIte]
  walk_at "pd"
  rw [a1]
  walk_at "pd"
  rw [bAll_true fun _ _ => rfl]
  walk_at "pd"
  rw [a2]
  walk_at "pd"
  rw [bAll_true fun _ _ => rfl]
  walk_at "pd"
  rw [a3]
  walk_at "pd"
  rw [bAll_true fun _ _ => rfl]
  walk_at "pd"
theorem d_need_table {T : Tab} {R C : Nat} (h : Fits T R C) : m_need_table [tabD T] = some (false, .none) := by
  have i0 := imm_tab T
  unfold m_need_table b_need_table
  walk_at "pd"
  rw [d_fits_table h]
  walk_at "pd"
theorem d_is_table {T : Tab} {R C : Nat} (h : Fits T R C) : m_is_table [tabD T] = some (false, .bool true) := by
  have i0 := imm_tab T
  unfold m_is_table b_is_table
  walk_at "pd"
  rw [d_fits_table h]
  walk_at "pd"
/-! ### sums by prefixes -/
def pre (T : Tab) (i j : Nat) : Int := ((T.take i).map fun row => (row.take j).sum).sum
def lineD (T : Tab) (C i : Nat) : D := .list ((List.range (C + 1)).map fun j => .int (pre T i j))
def preD (T : Tab) (R C : Nat) : D := .list ((List.range (R + 1)).map (lineD T C))
theorem sum_take_succ (ns : List Int) (j : Nat) (x : Int) (h : ns[j]? = some x) : (ns.take (j + 1)).sum = (ns.take j).sum + x := by
  rw [List.take_add_one, h, List.sum_append]
  simp
theorem pre_zero (T : Tab) (j : Nat) : pre T 0 j = 0 := rfl
theorem pre_col0 (T : Tab) (i : Nat) : pre T i 0 = 0 := by
  unfold pre
  induction (T.take i) with
  | nil => rfl
  | cons r rs ih => rw [List.map_cons, List.sum_cons, ih]; rfl
theorem pre_row {T : Tab} {i : Nat} {row : List Int} (h : T[i]? = some row) (j : Nat) : pre T (i + 1) j = pre T i j + (row.take j).sum := by
  unfold pre
  rw [List.take_add_one, h, List.map_append, List.sum_append]
  simp
theorem pre_cell {T : Tab} {i j : Nat} {row : List Int} {x : Int} (h : T[i]? = some row) (hx : row[j]? = some x) : pre T (i + 1) (j + 1) = pre T (i + 1) j + x + pre T i (j + 1) - pre T i j := by
  rw [pre_row h, pre_row h, sum_take_succ row j x hx]
  omega
theorem d_sums_in {T : Tab} {R C : Nat} (h : Fits T R C) : m_sums_in [tabD T] = some (true, preD T R C) := by
  have hl := h.r
  have hr1 := h.r1
  have hr2 := h.r2
  have hc1 := h.c1
  have hc2 := h.c2
  obtain ⟨r0, rs, e0, l0⟩ := h.row0
  -- the inner loop
  have inner : ∀ (i : Nat) (row : List Int) (acc : List D), T[i]? = some row → row.length = C → dFor (dEnum (dVar 2)) (gTup 2 (gCons (gN 5) (gCons (gN 6) gNil))) l1_sums_in [5, 6] ⟨false, [some (.sh (tabD T)), some (.own (.list acc)), some (.sh (rowD row)), some (.own (.list [.int 0])), some (.sh (lineD T C i)), none, none]⟩ =
      some (.nx ⟨false, [some (.sh (tabD T)), some (.own (.list acc)), some (.sh (rowD row)), some (.own (lineD T C (i + 1))), some (.sh (lineD T C i)), none, none]⟩) := by
    intro i row acc hrow hlen
    refine dFor_at (n := C) (fun j => ⟨false, [some (.sh (tabD T)), some (.own (.list acc)), some (.sh (rowD row)), some (.own (.list ((List.range (j + 1)).map fun k => .int (pre T (i + 1) k)))), some (.sh (lineD T C i)), none, none]⟩) (enD (row.map PyData.int)) (by rw [show (List.range (0 + 1)).map (fun k => PyData.int (pre T (i + 1) k)) = [.int (pre T (i + 1) 0)] from rfl, pre_col0]; unfold rowD; walk_at "pd") (by rw [enD_len, List.length_map, hlen]) fun j d hd => ?_
    obtain ⟨x, h1, rfl⟩ := enD_at hd
    obtain ⟨n, h2, rfl⟩ := map_at h1
    have hj : j < row.length := (List.getElem?_eq_some_iff.mp h2).1
    have g1 : L2.atI ((List.range (j + 1)).map fun k => PyData.int (pre T (i + 1) k)) (-1) = some (.int (pre T (i + 1) j)) := by rw [range_last]; exact atI_back _ _
    have g2 : bIx (lineD T C i) (.int ((j : Int) + 1)) = some (.sh (.int (pre T i (j + 1)))) := ix_listN (i := j + 1) (range_at (by omega))
    have g3 : bIx (lineD T C i) (.int (j : Int)) = some (.sh (.int (pre T i j))) := ix_listN (i := j) (range_at (by omega))
    unfold turnOf l1_sums_in
    walk_at "pd"
    rw [PD.ix_list g1]
    walk_at "pd"
    rw [g2]
    walk_at "pd"
    rw [g3]
    walk_at "pd"
    rw [app_list _ (by rw [List.length_map, List.length_range]; omega)]
    walk_at "pd"
    rw [range_last (fun k => PyData.int (pre T (i + 1) k)) (j + 1), pre_cell hrow h2]
  -- the outer loop
  have outer : dFor (dItems (dVar 0)) (gN 2) l2_sums_in [2, 3, 4, 5, 6] ⟨false, [some (.sh (tabD T)), some (.own (.list [lineD T C 0])), none, none, none, none, none]⟩ =
      some (.nx ⟨false, [some (.sh (tabD T)), some (.own (preD T R C)), none, none, none, none, none]⟩) := by
    refine dFor_at (n := R) (fun i => ⟨false, [some (.sh (tabD T)), some (.own (.list ((List.range (i + 1)).map (lineD T C)))), none, none, none, none, none]⟩) (T.map rowD) (by unfold tabD; walk_at "pd"; rfl) (by rw [List.length_map, hl]) fun i d hd => ?_
    obtain ⟨row, hrow, rfl⟩ := map_at hd
    have hi : i < T.length := (List.getElem?_eq_some_iff.mp hrow).1
    have g1 : L2.atI ((List.range (i + 1)).map (lineD T C)) (-1) = some (lineD T C i) := by rw [range_last]; exact atI_back _ _
    have g2 := inner i row ((List.range (i + 1)).map (lineD T C)) hrow (h.c row (List.mem_of_getElem? hrow))
    unfold turnOf l2_sums_in
    walk_at "pd"
    rw [PD.ix_list g1]
    walk_at "pd"
    rw [g2]
    walk_at "pd"
    rw [app_list _ (by rw [List.length_map, List.length_range]; omega)]
    walk_at "pd"
    rw [range_last (lineD T C) (i + 1)]
  unfold m_sums_in b_sums_in
  have i0 := imm_tab T
  have g0 : bIx (tabD T) (.int 0) = some (.sh (rowD r0)) := by rw [e0]; exact ix_tup0 _ _
  have g1 : bLen (rowD r0) = some (.sh (.int (C : Int))) := by unfold rowD; rw [len_tup, List.length_map, l0]
  have g2 : bMul (.list [.int 0]) (.int ((C : Int) + 1)) = some (.fr (lineD T C 0)) := by
    rw [PD.mul_list ⟨by omega, by omega, by decide⟩, flat_one, show ((C : Int) + 1).toNat = C + 1 by omega]
    unfold lineD
    congr 3
    apply List.ext_getElem?
    intro j
    by_cases hj : j < C + 1
    · rw [range_at hj, List.getElem?_replicate, if_pos hj, pre_zero]
    · rw [List.getElem?_eq_none (by simpa using hj), List.getElem?_eq_none (by simpa using hj)]
  walk_at "pd"
  rw [g0]
  walk_at "pd"
  rw [g1]
  walk_at "pd"
  rw [g2]
  walk_at "pd"
  rw [outer]
  walk_at "pd"
/-! ### rectangles -/
abbrev Rect := Nat × Nat × Nat × Nat
def rectD (q : Rect) : D := .tuple [.int (q.1 : Int), .int (q.2.1 : Int), .int (q.2.2.1 : Int), .int (q.2.2.2 : Int)]
theorem imm_rect (q : Rect) : imm (rectD q) = true := rfl
def rs (T : Tab) (q : Rect) : Int := pre T (q.2.2.1 + 1) (q.2.2.2 + 1) - pre T q.1 (q.2.2.2 + 1) - pre T (q.2.2.1 + 1) q.2.1 + pre T q.1 q.2.1
def InR (R C : Nat) (q : Rect) : Prop := q.1 ≤ q.2.2.1 ∧ q.2.2.1 < R ∧ q.2.1 ≤ q.2.2.2 ∧ q.2.2.2 < C
theorem line_at (T : Tab) {C i j : Nat} (h : j < C + 1) : bIx (lineD T C i) (.int (j : Int)) = some (.sh (.int (pre T i j))) := ix_listN (range_at h)
theorem preD_at (T : Tab) {R C i : Nat} (h : i < R + 1) : bIx (preD T R C) (.int (i : Int)) = some (.sh (lineD T C i)) := ix_listN (range_at h)
theorem d_sum_by (T : Tab) {R C : Nat} {q : Rect} (h : InR R C q) : m_sum_by [preD T R C, rectD q] = some (false, .int (rs T q)) := by
  obtain ⟨t, l, b, r⟩ := q
  obtain ⟨h1, h2, h3, h4⟩ := h
  have h1 : t ≤ b := h1
  have h2 : b < R := h2
  have h3 : l ≤ r := h3
  have h4 : r < C := h4
  have a1 := preD_at T (R := R) (C := C) (i := b + 1) (by omega)
  have a2 := preD_at T (R := R) (C := C) (i := t) (by omega)
  have b1 := line_at T (C := C) (i := b + 1) (j := r + 1) (by omega)
  have b2 := line_at T (C := C) (i := t) (j := r + 1) (by omega)
  have b3 := line_at T (C := C) (i := b + 1) (j := l) (by omega)
  have b4 := line_at T (C := C) (i := t) (j := l) (by omega)
  rw [Int.natCast_add, Int.natCast_one] at a1 b1 b2
  unfold m_sum_by b_sum_by rectD rs
  clear h1 h2 h3 h4
  walk_at "pd*"
def rects (R C : Nat) : List Rect := (List.range R).flatMap fun t => (List.range C).flatMap fun l => (List.range (R - t)).flatMap fun b => (List.range (C - l)).map fun r => (t, l, t + b, l + r)
theorem flat_last {α : Type} (f : Nat → List α) (n : Nat) : (List.range (n + 1)).flatMap f = (List.range n).flatMap f ++ f n := by
  rw [List.range_succ, List.flatMap_append]
  simp
theorem len_flat {α : Type} {f : Nat → List α} {k : Nat} : ∀ n : Nat, (∀ i < n, (f i).length ≤ k) → ((List.range n).flatMap f).length ≤ n * k
  | 0, _ => by simp
  | n + 1, h => by
    rw [flat_last, List.length_append, Nat.succ_mul]
    exact Nat.add_le_add (len_flat n fun i hi => h i (by omega)) (h n (by omega))
section
variable {R C : Nat}
theorem rights (x : D) (acc : D) (hC : C ≤ 5) (t l b : Nat) (hl : l ≤ C) : dLc (dRg2 (dVar 5) (dVar 2)) (gN 7) dYes (dTup (dCons (dVar 4) (dCons (dVar 5) (dCons (dVar 6) (dCons (dVar 7) dNil))))) [7]
      ⟨false, [some (.sh x), some (.sh (.int (R : Int))), some (.sh (.int (C : Int))), some (.own acc), some (.sh (.int (t : Int))), some (.sh (.int (l : Int))), some (.sh (.int (b : Int))), none]⟩ =
    some (.fr (.list ((List.range (C - l)).map fun r => rectD (t, l, b, l + r))), ⟨false, [some (.sh x), some (.sh (.int (R : Int))), some (.sh (.int (C : Int))), some (.own acc), some (.sh (.int (t : Int))), some (.sh (.int (l : Int))), some (.sh (.int (b : Int))), none]⟩) := by
  refine dLc_sh (emb := fun (r : Nat) => PyData.int ((l : Int) + (r : Int))) _ (List.range (C - l)) (rg2_vars (a := l) (b := C) rfl rfl (by omega) (by omega)) rfl (by rw [List.length_range]; omega) fun r hr => ?_
  have e : (l : Int) + (r : Int) = ((l + r : Nat) : Int) := by omega
  unfold rectD
  walk_at "pd"
  rw [e]
theorem rows_in (x : D) (acc : List D) (hR : R ≤ 5) (hC : C ≤ 5) (ha : acc.length ≤ 10000) (t l : Nat) (ht : t ≤ R) (hl : l ≤ C) :
    dFor (dRg2 (dVar 4) (dVar 1)) (gN 6) l1_rectangles_in [6, 7] ⟨false, [some (.sh x), some (.sh (.int (R : Int))), some (.sh (.int (C : Int))), some (.own (.list acc)), some (.sh (.int (t : Int))), some (.sh (.int (l : Int))), none, none]⟩ =
    some (.nx ⟨false, [some (.sh x), some (.sh (.int (R : Int))), some (.sh (.int (C : Int))), some (.own (.list (acc ++ ((List.range (R - t)).flatMap fun b => (List.range (C - l)).map fun r => (t, l, t + b, l + r)).map rectD))), some (.sh (.int (t : Int))), some (.sh (.int (l : Int))), none, none]⟩) := by
  refine dFor_at (n := R - t) (fun i => ⟨false, [some (.sh x), some (.sh (.int (R : Int))), some (.sh (.int (C : Int))), some (.own (.list (acc ++ ((List.range i).flatMap fun b => (List.range (C - l)).map fun r => (t, l, t + b, l + r)).map rectD))), some (.sh (.int (t : Int))), some (.sh (.int (l : Int))), none, none]⟩) (rgD (t : Int) (R - t))
    (by rw [List.range_zero, List.flatMap_nil, List.map_nil, List.append_nil]; exact rg2_vars (a := t) (b := R) rfl rfl (by omega) (by omega)) (rgD_len _ _) fun i d hd => ?_
  obtain ⟨hi, rfl⟩ := rgD_at hd
  have e : (t : Int) + (i : Int) = ((t + i : Nat) : Int) := by omega
  have hlen : (acc ++ ((List.range i).flatMap fun b => (List.range (C - l)).map fun r => (t, l, t + b, l + r)).map rectD).length + ((List.range (C - l)).map fun r => rectD (t, l, t + i, l + r)).length ≤ 16777216 := by
    have := len_flat (f := fun b => (List.range (C - l)).map fun r => ((t, l, t + b, l + r) : Rect)) (k := C - l) i fun _ _ => by rw [List.length_map, List.length_range]; exact Nat.le_refl _
    have h2 : i * (C - l) ≤ 5 * 5 := Nat.mul_le_mul (by omega) (by omega)
    rw [List.length_append, List.length_map, List.length_map, List.length_range]
    omega
  have g := rights (R := R) x (.list (acc ++ ((List.range i).flatMap fun b => (List.range (C - l)).map fun r => (t, l, t + b, l + r)).map rectD)) hC t l (t + i) hl
  rw [e]
  have step : l1_rectangles_in ⟨false, [some (.sh x), some (.sh (.int (R : Int))), some (.sh (.int (C : Int))), some (.own (.list (acc ++ ((List.range i).flatMap fun b => (List.range (C - l)).map fun r => (t, l, t + b, l + r)).map rectD))), some (.sh (.int (t : Int))), some (.sh (.int (l : Int))), some (.sh (.int ((t + i : Nat) : Int))), none]⟩ =
      some (.nx ⟨false, [some (.sh x), some (.sh (.int (R : Int))), some (.sh (.int (C : Int))), some (.own (.list ((acc ++ ((List.range i).flatMap fun b => (List.range (C - l)).map fun r => (t, l, t + b, l + r)).map rectD) ++ ((List.range (C - l)).map fun r => rectD (t, l, t + i, l + r))))), some (.sh (.int (t : Int))), some (.sh (.int (l : Int))), some (.sh (.int ((t + i : Nat) : Int))), none]⟩) := by
    unfold l1_rectangles_in
    exact dAugL_at g hlen rfl rfl rfl
  have st : turnOf (gN 6) l1_rectangles_in [6, 7] (.int ((t + i : Nat) : Int)) ⟨false, [some (.sh x), some (.sh (.int (R : Int))), some (.sh (.int (C : Int))), some (.own (.list (acc ++ ((List.range i).flatMap fun b => (List.range (C - l)).map fun r => (t, l, t + b, l + r)).map rectD))), some (.sh (.int (t : Int))), some (.sh (.int (l : Int))), none, none]⟩ =
      some ⟨false, [some (.sh x), some (.sh (.int (R : Int))), some (.sh (.int (C : Int))), some (.own (.list ((acc ++ ((List.range i).flatMap fun b => (List.range (C - l)).map fun r => (t, l, t + b, l + r)).map rectD) ++ ((List.range (C - l)).map fun r => rectD (t, l, t + i, l + r))))), some (.sh (.int (t : Int))), some (.sh (.int (l : Int))), none, none]⟩ := turn_gN step rfl
  rw [st, flat_last, List.map_append, ← List.append_assoc, List.map_map]
  rfl
def oS : Option Nat → Option Sl
  | none => none
  | some n => some (.sh (.int (n : Int)))
abbrev eR (x : D) (R C : Nat) (acc : List D) (t l : Option Nat) : En := ⟨false, [some (.sh x), some (.sh (.int (R : Int))), some (.sh (.int (C : Int))), some (.own (.list acc)), oS t, oS l, none, none]⟩
def rRow (R C t l : Nat) : List Rect := (List.range (R - t)).flatMap fun b => (List.range (C - l)).map fun r => (t, l, t + b, l + r)
def rCol (R C t : Nat) : List Rect := (List.range C).flatMap fun l => rRow R C t l
theorem len_rRow (hR : R ≤ 5) (hC : C ≤ 5) (t l : Nat) : (rRow R C t l).length ≤ 25 := by
  have := len_flat (f := fun b => (List.range (C - l)).map fun r => ((t, l, t + b, l + r) : Rect)) (k := C - l) (R - t) fun _ _ => by rw [List.length_map, List.length_range]; exact Nat.le_refl _
  have h2 : (R - t) * (C - l) ≤ 5 * 5 := Nat.mul_le_mul (by omega) (by omega)
  exact Nat.le_trans this h2
theorem len_rCols (hR : R ≤ 5) (hC : C ≤ 5) (t i : Nat) (hi : i ≤ C) : ((List.range i).flatMap fun l => rRow R C t l).length ≤ 125 := by
  have := len_flat (f := fun l => rRow R C t l) (k := 25) i fun l _ => len_rRow hR hC t l
  omega
theorem cols_in (x : D) (acc : List D) (hR : R ≤ 5) (hC : C ≤ 5) (ha : acc.length ≤ 9000) (t : Nat) (ht : t ≤ R) :
    dFor (dRg1 (dVar 2)) (gN 5) l2_rectangles_in [5, 6, 7] (eR x R C acc (some t) none) = some (.nx (eR x R C (acc ++ (rCol R C t).map rectD) (some t) none)) := by
  refine dFor_at (n := C) (fun i => eR x R C (acc ++ ((List.range i).flatMap fun l => rRow R C t l).map rectD) (some t) none) (rgD 0 C)
    (by rw [List.range_zero, List.flatMap_nil, List.map_nil, List.append_nil]; exact rg1_var (n := C) rfl (by omega)) (rgD_len _ _) fun i d hd => ?_
  obtain ⟨hi, rfl⟩ := rgD_at hd
  rw [Int.zero_add]
  have hl := len_rCols hR hC t i (by omega)
  have step : l2_rectangles_in (eR x R C (acc ++ ((List.range i).flatMap fun l => rRow R C t l).map rectD) (some t) (some i)) =
      some (.nx (eR x R C ((acc ++ ((List.range i).flatMap fun l => rRow R C t l).map rectD) ++ (rRow R C t i).map rectD) (some t) (some i))) :=
    rows_in x (acc ++ ((List.range i).flatMap fun l => rRow R C t l).map rectD) hR hC (by rw [List.length_append, List.length_map]; omega) t i ht (by omega)
  have st : turnOf (gN 5) l2_rectangles_in [5, 6, 7] (.int (i : Int)) (eR x R C (acc ++ ((List.range i).flatMap fun l => rRow R C t l).map rectD) (some t) none) =
      some (eR x R C ((acc ++ ((List.range i).flatMap fun l => rRow R C t l).map rectD) ++ (rRow R C t i).map rectD) (some t) none) := turn_gN step rfl
  rw [st, flat_last, List.map_append, ← List.append_assoc]
theorem d_rectangles_in (T : Tab) (h : Fits T R C) : m_rectangles_in [tabD T] = some (true, .list ((rects R C).map rectD)) := by
  have hl := h.r
  have hr2 := h.r2
  have hc2 := h.c2
  obtain ⟨r0, rs, e0, l0⟩ := h.row0
  have all : dFor (dRg1 (dVar 1)) (gN 4) l3_rectangles_in [4, 5, 6, 7] (eR (tabD T) R C [] none none) = some (.nx (eR (tabD T) R C ((rects R C).map rectD) none none)) := by
    refine dFor_at (n := R) (fun i => eR (tabD T) R C (((List.range i).flatMap fun t => rCol R C t).map rectD) none none) (rgD 0 R) (rg1_var (n := R) rfl (by omega)) (rgD_len _ _) fun i d hd => ?_
    obtain ⟨hi, rfl⟩ := rgD_at hd
    rw [Int.zero_add]
    have hl := len_flat (f := fun t => rCol R C t) (k := 125) i fun t _ => len_rCols hr2 hc2 t C (Nat.le_refl _)
    have step : l3_rectangles_in (eR (tabD T) R C (((List.range i).flatMap fun t => rCol R C t).map rectD) (some i) none) =
        some (.nx (eR (tabD T) R C ((((List.range i).flatMap fun t => rCol R C t).map rectD) ++ (rCol R C i).map rectD) (some i) none)) :=
      cols_in (tabD T) (((List.range i).flatMap fun t => rCol R C t).map rectD) hr2 hc2 (by rw [List.length_map]; omega) i (by omega)
    have st : turnOf (gN 4) l3_rectangles_in [4, 5, 6, 7] (.int (i : Int)) (eR (tabD T) R C (((List.range i).flatMap fun t => rCol R C t).map rectD) none none) =
        some (eR (tabD T) R C ((((List.range i).flatMap fun t => rCol R C t).map rectD) ++ (rCol R C i).map rectD) none none) := turn_gN step rfl
    rw [st, flat_last, List.map_append]
  have g0 : bIx (tabD T) (.int 0) = some (.sh (rowD r0)) := by rw [e0]; exact ix_tup0 _ _
  have g1 : bLen (rowD r0) = some (.sh (.int (C : Int))) := by unfold rowD; rw [len_tup, List.length_map, l0]
  have g2 : bLen (tabD T) = some (.sh (.int (R : Int))) := by unfold tabD; rw [len_tup, List.length_map, hl]
  unfold m_rectangles_in b_rectangles_in
  walk_at "pd"
  rw [g2]
  walk_at "pd"
  rw [g0]
  walk_at "pd"
  rw [g1]
  walk_at "pd"
  simp only [eR, oS] at all
  rw [all]
  walk_at "pd"
end
/-! ### the asked functions -/
theorem d_fits_place {T : Tab} {R C : Nat} (h : Fits T R C) {i j : Nat} (hi : i < R) (hj : j < C) : m_fits_place [tabD T, .tuple [.int (i : Int), .int (j : Int)]] = some (false, .bool true) := by
  obtain ⟨r0, rs, e0, l0⟩ := h.row0
  have hl := h.r
  have g0 : bIx (tabD T) (.int 0) = some (.sh (rowD r0)) := by rw [e0]; exact ix_tup0 _ _
  have g1 : bLen (rowD r0) = some (.sh (.int (C : Int))) := by unfold rowD; rw [len_tup, List.length_map, l0]
  have g2 : bLen (tabD T) = some (.sh (.int (R : Int))) := by unfold tabD; rw [len_tup, List.length_map, hl]
  have i0 := imm_tab T
  have c1 : m_is_tuple_of [.tuple [.int (i : Int), .int (j : Int)], .int 2, .int 2] = some (false, .bool true) := by rw [d_is_tuple_of]; rfl
  have c2 : m_fits_whole [.int (i : Int), .int 0, .int ((R : Int) - 1)] = some (false, .bool true) := by rw [d_fits_whole, decide_eq_true (by omega)]
  have c3 : m_fits_whole [.int (j : Int), .int 0, .int ((C : Int) - 1)] = some (false, .bool true) := by rw [d_fits_whole, decide_eq_true (by omega)]
  clear h hi hj hl l0 e0
  unfold m_fits_place b_fits_place
  walk_at "pd*"
theorem cut_lo (a b c d : D) : cutD [a, b, c, d] none (some 2) = [a, b] := rfl
theorem cut_hi (a b c d : D) : cutD [a, b, c, d] (some 2) none = [c, d] := rfl
theorem d_fits_rectangle {T : Tab} {R C : Nat} (h : Fits T R C) {q : Rect} (hq : InR R C q) : m_fits_rectangle [tabD T, rectD q] = some (false, .bool true) := by
  obtain ⟨t, l, b, r⟩ := q
  obtain ⟨h1, h2, h3, h4⟩ := hq
  have h1 : t ≤ b := h1
  have h2 : b < R := h2
  have h3 : l ≤ r := h3
  have h4 : r < C := h4
  have i0 := imm_tab T
  have c1 : m_is_tuple_of [.tuple [.int (t : Int), .int (l : Int), .int (b : Int), .int (r : Int)], .int 4, .int 4] = some (false, .bool true) := by rw [d_is_tuple_of]; rfl
  have c2 := d_fits_place h (i := t) (j := l) (by omega) (by omega)
  have c3 := d_fits_place h (i := b) (j := r) (by omega) (by omega)
  have k1 : decide ((t : Int) ≤ (b : Int)) = true := decide_eq_true (by omega)
  have k2 : decide ((l : Int) ≤ (r : Int)) = true := decide_eq_true (by omega)
  have z1 := cut_lo (.int (t : Int)) (.int (l : Int)) (.int (b : Int)) (.int (r : Int))
  have z2 := cut_hi (.int (t : Int)) (.int (l : Int)) (.int (b : Int)) (.int (r : Int))
  clear h h1 h2 h3 h4
  unfold m_fits_rectangle b_fits_rectangle rectD
  walk_at "pd*"
theorem d_sum_of {T : Tab} {R C : Nat} (h : Fits T R C) {q : Rect} (hq : InR R C q) : m_sum_of [tabD T, rectD q] = some (false, .int (rs T q)) := by
  have i0 := imm_tab T
  have i1 := imm_rect q
  have c1 := d_need_table h
  have c2 := d_fits_rectangle h hq
  have c3 := d_sums_in h
  have c4 := d_sum_by T hq
  clear h hq
  unfold m_sum_of b_sum_of
  walk_at "pd*"
def beats (T : Tab) (best : Option Rect) (q : Rect) : Option Rect := match best with
  | none => some q
  | some p => if rs T p < rs T q then some q else some p
def bestD (T : Tab) : Option Rect → D
  | none => .none
  | some p => .tuple [.int (rs T p), rectD p]
theorem rects_in {R C : Nat} {q : Rect} (h : q ∈ rects R C) : InR R C q := by
  unfold rects at h
  simp only [List.mem_flatMap, List.mem_map, List.mem_range] at h
  obtain ⟨t, ht, l, hl, b, hb, r, hr, rfl⟩ := h
  exact ⟨by show t ≤ t + b; omega, by show t + b < R; omega, by show l ≤ l + r; omega, by show l + r < C; omega⟩
theorem d_greatest_sum {T : Tab} {R C : Nat} (h : Fits T R C) : m_greatest_sum [tabD T] = some (false, bestD T ((rects R C).foldl (beats T) none)) := by
  have i0 := imm_tab T
  have c1 := d_need_table h
  have c3 := d_sums_in h
  have c4 := d_rectangles_in T h
  have all : dFor (dItems (dCall m_rectangles_in (dCons (dVar 0) dNil))) (gN 3) l1_greatest_sum [3, 4] ⟨false, [some (.sh (tabD T)), some (.own (preD T R C)), some (.sh .none), none, none]⟩ =
      some (.nx ⟨false, [some (.sh (tabD T)), some (.own (preD T R C)), some (.sh (bestD T ((rects R C).foldl (beats T) none))), none, none]⟩) := by
    have fi : dItems (dCall m_rectangles_in (dCons (dVar 0) dNil)) ⟨false, [some (.sh (tabD T)), some (.own (preD T R C)), some (.sh .none), none, none]⟩ = some ((rects R C).map rectD, ⟨false, [some (.sh (tabD T)), some (.own (preD T R C)), some (.sh .none), none, none]⟩) := by
      walk_at "pd*"
    unfold dFor
    rw [fi, Option.bind_some]
    refine (forGo_fold (fun b : Option Rect => (⟨false, [some (.sh (tabD T)), some (.own (preD T R C)), some (.sh (bestD T b)), none, none]⟩ : En)) (beats T) (fun _ => True) (fun q => InR R C q) (fun q s hq _ => ?_) (rects R C) none (fun q hq => rects_in hq) trivial).1
    have c5 := d_sum_by T hq
    have i1 := imm_rect q
    cases s with
    | none =>
      refine ⟨_, ⟨false, [some (.sh (tabD T)), some (.own (preD T R C)), some (.sh (bestD T (some q))), some (.sh (rectD q)), some (.sh (.int (rs T q)))]⟩, rfl, ?_, rfl, trivial⟩
      unfold l1_greatest_sum bestD
      walk_at "pd*"
    | some p =>
      have i2 := imm_rect p
      by_cases hp : rs T p < rs T q
      · refine ⟨_, ⟨false, [some (.sh (tabD T)), some (.own (preD T R C)), some (.sh (bestD T (some q))), some (.sh (rectD q)), some (.sh (.int (rs T q)))]⟩, rfl, ?_, by unfold beats; simp only [hp, if_true]; rfl, trivial⟩
        unfold l1_greatest_sum bestD
        have k1 : decide (rs T p < rs T q) = true := decide_eq_true hp
        walk_at "pd*"
      · refine ⟨_, ⟨false, [some (.sh (tabD T)), some (.own (preD T R C)), some (.sh (bestD T (some p))), some (.sh (rectD q)), some (.sh (.int (rs T q)))]⟩, rfl, ?_, by unfold beats; simp only [hp, if_false]; rfl, trivial⟩
        unfold l1_greatest_sum bestD
        have k1 : decide (rs T p < rs T q) = false := decide_eq_false hp
        walk_at "pd*"
  unfold m_greatest_sum b_greatest_sum
  clear h c4
  walk_at "pd*"
theorem len_rects {R C : Nat} (hR : R ≤ 5) (hC : C ≤ 5) : (rects R C).length ≤ 625 := by
  have := len_flat (f := fun t => rCol R C t) (k := 125) R fun t _ => len_rCols hR hC t C (Nat.le_refl _)
  have e : (rects R C).length = ((List.range R).flatMap fun t => rCol R C t).length := rfl
  omega
theorem fits_400 (n : Int) : m_fits_whole [.int n, .int (-400 * 1000000), .int (400 * 1000000)] = some (false, .bool (decide (-400000000 ≤ n ∧ n ≤ 400000000))) := d_fits_whole _ _ _
theorem d_count_with_sum {T : Tab} {R C : Nat} (h : Fits T R C) {n : Int} (hn : -400000000 ≤ n ∧ n ≤ 400000000) : m_count_with_sum [tabD T, .int n] = some (false, .int (((rects R C).filter fun q => decide (rs T q = n)).length : Int)) := by
  have i0 := imm_tab T
  have c1 := d_need_table h
  have c3 := d_sums_in h
  have c4 := d_rectangles_in T h
  have m1 : bMul (.int (-400)) (.int 1000000) = some (.sh (.int (-400 * 1000000))) := PD.mul_int (.inl ⟨by decide, by decide⟩)
  have m2 : bMul (.int 400) (.int 1000000) = some (.sh (.int (400 * 1000000))) := PD.mul_int (.inl ⟨by decide, by decide⟩)
  have m3 := fits_400 n
  rw [decide_eq_true hn] at m3
  have fi : dItems (dCall m_rectangles_in (dCons (dVar 0) dNil)) ⟨false, [some (.sh (tabD T)), some (.sh (.int n)), some (.own (preD T R C)), none]⟩ = some ((rects R C).map rectD, ⟨false, [some (.sh (tabD T)), some (.sh (.int n)), some (.own (preD T R C)), none]⟩) := by
    clear h hn
    walk_at "pd*"
  have lc : dLc (dItems (dCall m_rectangles_in (dCons (dVar 0) dNil))) (gN 3) (dCmpT cEq (dCall m_sum_by (dCons (dVar 2) (dCons (dVar 3) dNil))) (dVar 1)) (dC (.int 1)) [3] ⟨false, [some (.sh (tabD T)), some (.sh (.int n)), some (.own (preD T R C)), none]⟩ =
      some (.fr (.list (((rects R C).filter fun q => decide (rs T q = n)).map fun _ => .int 1)), ⟨false, [some (.sh (tabD T)), some (.sh (.int n)), some (.own (preD T R C)), none]⟩) := by
    refine dLc_one _ _ (rects R C) fi rfl ?_ (fun q hq => ?_) (fun q hq _ => .inl rfl)
    · have := len_rects h.r2 h.c2
      omega
    · have c5 := d_sum_by T (rects_in hq)
      have i1 := imm_rect q
      clear h hn fi hq
      walk_at "pd*"
  have ll : bLen (.list (((rects R C).filter fun q => decide (rs T q = n)).map fun _ => PyData.int 1)) = some (.sh (.int (((rects R C).filter fun q => decide (rs T q = n)).length : Int))) := by rw [len_list, List.length_map]
  unfold m_count_with_sum b_count_with_sum
  clear h hn c4 fi
  walk_at "pd*"
end PD.K47
set_option Elab.async false
set_option linter.all false
set_option maxRecDepth 100000
set_option maxHeartbeats 4000000
namespace PD.K47
set_option autoImplicit false
open PySem PySem.Spec L2 PD
open PyProof.Rows hiding St
local macro_rules | `(tactic| walk_at "pd") => `(tactic| simp only [dC, dVar, dBin, dCmp_ap, dCmpT, wB, dChainT, dOfT, dTruT, dAndT, dOrT, dNotT, dAndV, dOrV, dNotV, dIf, dNeg, dNil, dCons, gives, give_vr, give_sh, give_fr, get_sh, get_fr, get_vr, En.at, En.with, Sl.d, dTup, dLst, dCut, dNo, dPart, bCut, dNx, dSeq, dIfS, dRet, dRetN, dBk, dCt, dDrop, dStIx, set_l0, set_l1, gN, gCons, gTup, gNil, dSet, dPar, dUnp, settle, puts, En.put, En.set, dItems, dRg1, dRg2, itemsOf, dB1, semOf, slots, endOf, dCall, gets, light_f, light_t, wOf_f, wOf_t, is_nn, is_bn, is_in, is_sn, is_ln, is_tn, is_bb, isn_nn, isn_bn, isn_in, isn_sn, isn_ln, isn_tn, isn_bb, tyD_list, tyD_dict, eq_self, imm_none, imm_bool, imm_int, imm_str, imm_tup, imm_list, imms_nil, imms_cons, inner_list,
  isi_int, isi_bool, isi_tuple, isi_list, isi_str, isi_dict, isInt, isBool, isTup, isLst, isStr, isDic, En.wipe, wipeS, restoreS, dMut, En.mine, En.own, dEnum, dZip, tru_none, tru_bool, tru_int, tru_list, tru_tup, len_list, len_tup, len_dict, PD.add_int, PD.sub_int, int_int, abs_int, le_int, lt_int, gt_int, ge_int, PD.eq_int, PD.ne_int, PD.ne_bool, PD.eq_bool, PD.eq_nil, ix_tup0, ix_tup1, ix_tup2, ix_tup3, ix_list0, ix_list1, tup_list, tup_tup, lst_list, lst_tup, dCallC, notVr, semC,
  Option.bind_some, Option.map_some, Option.bind_none, Option.map_none, List.getElem?_cons_zero, List.getElem?_cons_succ, List.length_cons, List.length_nil, List.map_cons, List.map_nil, List.replicate, List.append_nil, List.nil_append, List.cons_append, List.set_cons_zero, List.set_cons_succ, List.all_cons, List.all_nil, Nat.sub_self, Nat.reduceAdd, Nat.reduceSub, Nat.reduceLT, Nat.reduceEqDiff, List.mem_cons, List.not_mem_nil,  Nat.reduceLeDiff, if_true, if_false, reduceIte, ite_self, Bool.false_eq_true, Bool.not_true, Bool.not_false, decide_true, decide_false, Option.getD_some, Option.getD_none, Bool.true_and, Bool.and_true, Bool.false_and, Bool.and_false, false_and, and_false, true_and, and_true, not_true_eq_false, not_false_eq_true, or_self, or_false, false_or, List.isEmpty_cons, List.isEmpty_nil, Nat.zero_ne_one])
local macro_rules | `(tactic| walk_at "pd*") => `(tactic| simp only [dC, dVar, dBin, dCmp_ap, dCmpT, wB, dChainT, dOfT, dTruT, dAndT, dOrT, dNotT, dAndV, dOrV, dNotV, dIf, dNeg, dNil, dCons, gives, give_vr, give_sh, give_fr, get_sh, get_fr, get_vr, En.at, En.with, Sl.d, dTup, dLst, dCut, dNo, dPart, bCut, dNx, dSeq, dIfS, dRet, dRetN, dBk, dCt, dDrop, dStIx, set_l0, set_l1, gN, gCons, gTup, gNil, dSet, dPar, dUnp, settle, puts, En.put, En.set, dItems, dRg1, dRg2, itemsOf, dB1, semOf, slots, endOf, dCall, gets, light_f, light_t, wOf_f, wOf_t, is_nn, is_bn, is_in, is_sn, is_ln, is_tn, is_bb, isn_nn, isn_bn, isn_in, isn_sn, isn_ln, isn_tn, isn_bb, tyD_list, tyD_dict, eq_self, imm_none, imm_bool, imm_int, imm_str, imm_tup, imm_list, imms_nil, imms_cons, inner_list,
  isi_int, isi_bool, isi_tuple, isi_list, isi_str, isi_dict, isInt, isBool, isTup, isLst, isStr, isDic, En.wipe, wipeS, restoreS, dMut, En.mine, En.own, dEnum, dZip, tru_none, tru_bool, tru_int, tru_list, tru_tup, len_list, len_tup, len_dict, PD.add_int, PD.sub_int, int_int, abs_int, le_int, lt_int, gt_int, ge_int, PD.eq_int, PD.ne_int, PD.ne_bool, PD.eq_bool, PD.eq_nil, ix_tup0, ix_tup1, ix_tup2, ix_tup3, ix_list0, ix_list1, tup_list, tup_tup, lst_list, lst_tup, dCallC, notVr, semC,
  Option.bind_some, Option.map_some, Option.bind_none, Option.map_none, List.getElem?_cons_zero, List.getElem?_cons_succ, List.length_cons, List.length_nil, List.map_cons, List.map_nil, List.replicate, List.append_nil, List.nil_append, List.cons_append, List.set_cons_zero, List.set_cons_succ, List.all_cons, List.all_nil, Nat.sub_self, Nat.reduceAdd, Nat.reduceSub, Nat.reduceLT, Nat.reduceEqDiff, List.mem_cons, List.not_mem_nil,  Nat.reduceLeDiff, if_true, if_false, reduceIte, ite_self, Bool.false_eq_true, Bool.not_true, Bool.not_false, decide_true, decide_false, Option.getD_some, Option.getD_none, Bool.true_and, Bool.and_true, Bool.false_and, Bool.and_false, false_and, and_false, true_and, and_true, not_true_eq_false, not_false_eq_true, or_self, or_false, false_or, List.isEmpty_cons, List.isEmpty_nil, Nat.zero_ne_one, *])
/-! ### the cup -/
structure Cup (c : D) : Prop where
  ex : ∃ x y : Int, c = .list [.int x, .int y] ∧ 0 ≤ x ∧ 0 ≤ y ∧ y < 10000000000
theorem d_roll {c : D} (hc : Cup c) {n : Int} (h1 : 0 < n) (h2 : n < 1073741824) : ∃ (c' : D) (r : Int), m__law_roll c [.int n] = some ((false, .int r), c') ∧ Cup c' ∧ 0 ≤ r ∧ r < n := by
  obtain ⟨x, y, rfl, hx, hy, hy2⟩ := hc
  by_cases h0 : 0 < x
  · refine ⟨.list [.int (x / n), .int y], x % n, ?_, ⟨x / n, y, rfl, Int.ediv_nonneg hx (Int.le_of_lt h1), hy, hy2⟩, Int.emod_nonneg _ (by omega), Int.emod_lt_of_pos _ h1⟩
    have k1 : decide (0 < x) = true := decide_eq_true h0
    have m1 : bMod (.int x) (.int n) = some (.sh (.int (x % n))) := PD.mod_int h1
    have m2 : bDiv (.int x) (.int n) = some (.sh (.int (x / n))) := PD.div_int ⟨h1, h2⟩
    clear hx hy hy2 h0 h1 h2
    unfold m__law_roll b__law_roll
    walk_at "pd*"
  · have k1 : decide (0 < x) = false := decide_eq_false h0
    have b1 := Int.emod_nonneg (y * 37693 + 12331) (show (2147483423 : Int) ≠ 0 by decide)
    have b2 := Int.emod_lt_of_pos (y * 37693 + 12331) (show (0 : Int) < 2147483423 by decide)
    have m1 : bMul (.int y) (.int 37693) = some (.sh (.int (y * 37693))) := PD.mul_int (.inr ⟨by decide, by decide⟩)
    have m2 : bMod (.int (y * 37693 + 12331)) (.int 2147483423) = some (.sh (.int ((y * 37693 + 12331) % 2147483423))) := PD.mod_int (by decide)
    generalize (y * 37693 + 12331) % 2147483423 = z at m2 b1 b2
    have m3 : bMul (.int z) (.int (z + 1933)) = some (.sh (.int (z * (z + 1933)))) := PD.mul_int (.inl ⟨by omega, by omega⟩)
    have m4 : bMod (.int (z * (z + 1933))) (.int 2147483587) = some (.sh (.int (z * (z + 1933) % 2147483587))) := PD.mod_int (by decide)
    generalize z * (z + 1933) % 2147483587 = u at m4
    have m5 : bDiv (.int u) (.int 2157) = some (.sh (.int (u / 2157))) := PD.div_int ⟨by decide, by decide⟩
    have m6 : bMod (.int (u / 2157)) (.int n) = some (.sh (.int (u / 2157 % n))) := PD.mod_int h1
    refine ⟨.list [.int x, .int z], u / 2157 % n, ?_, ⟨x, z, rfl, hx, b1, by omega⟩, Int.emod_nonneg _ (by omega), Int.emod_lt_of_pos _ h1⟩
    clear hx hy hy2 h0 h1 h2 b1 b2
    unfold m__law_roll b__law_roll
    walk_at "pd*"
theorem Cup.inner {c : D} (h : Cup c) : inner c = true := by
  obtain ⟨x, y, rfl, _⟩ := h.ex
  rfl
/-- one of the things -/
theorem d_some {c : D} (hc : Cup c) {xs : List D} (h1 : 0 < xs.length) (h2 : xs.length < 1073741824) : ∃ (c' : D) (i : Nat) (d : D), m__law_some c [.list xs] = some ((false, d), c') ∧ Cup c' ∧ xs[i]? = some d := by
  obtain ⟨c', r, e, hc', r0, r1⟩ := d_roll hc (n := (xs.length : Int)) (by omega) (by omega)
  have hi : r.toNat < xs.length := by omega
  refine ⟨c', r.toNat, xs[r.toNat], ?_, hc', List.getElem?_eq_getElem hi⟩
  have g : bIx (.list xs) (.int r) = some (.sh xs[r.toNat]) := by
    have := ix_listN (xs := xs) (i := r.toNat) (List.getElem?_eq_getElem hi)
    rwa [Int.toNat_of_nonneg r0] at this
  have ci := hc'.inner
  clear hc h1 h2 hc' r0 r1
  unfold m__law_some b__law_some
  walk_at "pd*"
/-- a drawn table: so many rows and columns, small entries -/
structure Drawn (T : Tab) (R C : Nat) : Prop where
  r : T.length = R
  c : ∀ row ∈ T, row.length = C
  e : ∀ row ∈ T, ∀ x ∈ row, -3 ≤ x ∧ x ≤ 4
theorem ints_of : ∀ {ys : List D} {p : Int → Prop}, (∀ y ∈ ys, ∃ n : Int, y = .int n ∧ p n) → ∃ ns : List Int, ys = ns.map .int ∧ ∀ n ∈ ns, p n
  | [], _, _ => ⟨[], rfl, by simp⟩
  | y :: ys, p, h => by
    obtain ⟨n, rfl, hn⟩ := h y List.mem_cons_self
    obtain ⟨ns, rfl, hp⟩ := ints_of fun z hz => h z (List.mem_cons_of_mem _ hz)
    exact ⟨n :: ns, rfl, fun m hm => by
      rcases List.mem_cons.mp hm with rfl | hm
      · exact hn
      · exact hp m hm⟩
theorem rows_of {C : Nat} : ∀ {ys : List D}, (∀ y ∈ ys, ∃ row : List Int, y = rowD row ∧ row.length = C ∧ ∀ x ∈ row, -3 ≤ x ∧ x ≤ 4) → ∃ T : Tab, ys = T.map rowD ∧ (∀ row ∈ T, row.length = C) ∧ ∀ row ∈ T, ∀ x ∈ row, -3 ≤ x ∧ x ≤ 4
  | [], _ => ⟨[], rfl, by simp, by simp⟩
  | y :: ys, h => by
    obtain ⟨n, rfl, h1, h2⟩ := h y List.mem_cons_self
    obtain ⟨ns, rfl, k1, k2⟩ := rows_of fun z hz => h z (List.mem_cons_of_mem _ hz)
    exact ⟨n :: ns, rfl, fun m hm => by
      rcases List.mem_cons.mp hm with rfl | hm
      · exact h1
      · exact k1 m hm, fun m hm => by
      rcases List.mem_cons.mp hm with rfl | hm
      · exact h2
      · exact k2 m hm⟩
def lowWide : List D := [.tuple [.int 0, .int 2], .tuple [.int (-1), .int 3], .tuple [.int (-3), .int 7], .tuple [.int (-2), .int 2], .tuple [.int 1, .int 4]]
theorem lowWide_at {i : Nat} {d : D} (h : lowWide[i]? = some d) : ∃ a b : Int, d = .tuple [.int a, .int b] ∧ 0 < b ∧ b ≤ 7 ∧ -3 ≤ a ∧ a + b ≤ 5 := by
  match i, h with
  | 0, h => cases h; exact ⟨0, 2, rfl, by decide, by decide, by decide, by decide⟩
  | 1, h => cases h; exact ⟨-1, 3, rfl, by decide, by decide, by decide, by decide⟩
  | 2, h => cases h; exact ⟨-3, 7, rfl, by decide, by decide, by decide, by decide⟩
  | 3, h => cases h; exact ⟨-2, 2, rfl, by decide, by decide, by decide, by decide⟩
  | 4, h => cases h; exact ⟨1, 4, rfl, by decide, by decide, by decide, by decide⟩
  | n + 5, h => cases h
theorem d_table {c : D} (hc : Cup c) {R C : Nat} (hR : R ≤ 100) (hC : C ≤ 100) : ∃ (c' : D) (T : Tab), m__law_table c [.int (R : Int), .int (C : Int)] = some ((false, tabD T), c') ∧ Cup c' ∧ Drawn T R C := by
  obtain ⟨c1, i, d, e1, hc1, hd⟩ := d_some hc (xs := lowWide) (by decide) (by decide)
  obtain ⟨a, b, rfl, hb, hb2, ha, hab⟩ := lowWide_at hd
  have ci := hc1.inner
  let E : D → En := fun c => ⟨true, [some (.own c), some (.sh (.int (R : Int))), some (.sh (.int (C : Int))), some (.sh (.int a)), some (.sh (.int b)), none, none]⟩
  have outer := dLc_thr (fi := dRg1 (dVar 1)) (fe := dB1 bTuple (dLc (dRg1 (dVar 2)) (gN 5) dYes (dBin bAdd (dVar 3) (dCallC m__law_roll (dCons (dVar 0) (dCons (dVar 4) dNil)))) [5])) (i := 6) E Cup (fun y => ∃ row : List Int, y = rowD row ∧ row.length = C ∧ ∀ x ∈ row, -3 ≤ x ∧ x ≤ 4) (s0 := c1) (ds := rgD 0 R) (rg1_var (n := R) rfl (by omega)) (by rw [rgD_len]; omega) hc1 (fun x hx s hs => by
    have inn := dLc_thr (fi := dRg1 (dVar 2)) (fe := dBin bAdd (dVar 3) (dCallC m__law_roll (dCons (dVar 0) (dCons (dVar 4) dNil)))) (i := 5) (fun c => (E c).with 6 x) Cup (fun y => ∃ n : Int, y = .int n ∧ (-3 ≤ n ∧ n ≤ 4)) (s0 := s) (ds := rgD 0 C) (rg1_var (n := C) rfl (by omega)) (by rw [rgD_len]; omega) hs (fun x' hx' s' hs' => by
      obtain ⟨c2, r, e2, hc2, r0, r1⟩ := d_roll hs' (n := b) hb (by omega)
      have ci := hc2.inner
      refine ⟨c2, .sh (.int (a + r)), .int (a + r), ?_, .inl rfl, hc2, a + r, rfl, by omega, by omega⟩
      clear hc1 hs hs' hc2 hc hd r0 r1 hb hb2 ha hab
      simp only [E]
      walk_at "pd*")
    obtain ⟨s', ys, e2, hs', hn, hP⟩ := inn
    obtain ⟨row, rfl, hrow⟩ := ints_of hP
    refine ⟨s', .sh (rowD row), rowD row, ?_, .inl rfl, hs', row, rfl, by rw [← rgD_len 0 C, ← hn, List.length_map], hrow⟩
    unfold dB1
    rw [e2]
    rfl)
  obtain ⟨c2, ys, e2, hc2, hn, hP⟩ := outer
  obtain ⟨T, rfl, h1, h2⟩ := rows_of hP
  refine ⟨c2, T, ?_, hc2, by rw [← rgD_len 0 R, ← hn, List.length_map], h1, h2⟩
  have ci2 := hc2.inner
  clear hc hc1 hc2 hP hn
  simp only [E] at e2
  unfold lowWide at e1
  unfold m__law_table b__law_table tabD
  walk_at "pd*"
/-! ### the law's own rectangles -/
section
variable {R C : Nat}
abbrev eL (R C : Nat) (acc : List D) (t l b : Option Nat) : En := ⟨false, [some (.sh (.int (R : Int))), some (.sh (.int (C : Int))), some (.own (.list acc)), oS t, oS l, oS b, none]⟩
theorem lrights (acc : List D) (hC : C ≤ 5) (t l b : Nat) (hl : l ≤ C) : dLc (dRg2 (dVar 4) (dVar 1)) (gN 6) dYes (dTup (dCons (dVar 3) (dCons (dVar 4) (dCons (dVar 5) (dCons (dVar 6) dNil))))) [6] (eL R C acc (some t) (some l) (some b)) =
    some (.fr (.list ((List.range (C - l)).map fun r => rectD (t, l, b, l + r))), eL R C acc (some t) (some l) (some b)) := by
  refine dLc_sh (emb := fun (r : Nat) => PyData.int ((l : Int) + (r : Int))) _ (List.range (C - l)) (rg2_vars (a := l) (b := C) rfl rfl (by omega) (by omega)) rfl (by rw [List.length_range]; omega) fun r hr => ?_
  have e : (l : Int) + (r : Int) = ((l + r : Nat) : Int) := by omega
  unfold rectD
  simp only [eL, oS]
  walk_at "pd"
  rw [e]
theorem lrows (acc : List D) (hR : R ≤ 5) (hC : C ≤ 5) (ha : acc.length ≤ 10000) (t l : Nat) (ht : t ≤ R) (hl : l ≤ C) :
    dFor (dRg2 (dVar 3) (dVar 0)) (gN 5) l1__law_rectangles [5, 6] (eL R C acc (some t) (some l) none) = some (.nx (eL R C (acc ++ (rRow R C t l).map rectD) (some t) (some l) none)) := by
  refine dFor_at (n := R - t) (fun i => eL R C (acc ++ ((List.range i).flatMap fun b => (List.range (C - l)).map fun r => (t, l, t + b, l + r)).map rectD) (some t) (some l) none) (rgD (t : Int) (R - t))
    (by rw [List.range_zero, List.flatMap_nil, List.map_nil, List.append_nil]; exact rg2_vars (a := t) (b := R) rfl rfl (by omega) (by omega)) (rgD_len _ _) fun i d hd => ?_
  obtain ⟨hi, rfl⟩ := rgD_at hd
  have e : (t : Int) + (i : Int) = ((t + i : Nat) : Int) := by omega
  rw [e]
  have hlen : (acc ++ ((List.range i).flatMap fun b => (List.range (C - l)).map fun r => (t, l, t + b, l + r)).map rectD).length + ((List.range (C - l)).map fun r => rectD (t, l, t + i, l + r)).length ≤ 16777216 := by
    have := len_flat (f := fun b => (List.range (C - l)).map fun r => ((t, l, t + b, l + r) : Rect)) (k := C - l) i fun _ _ => by rw [List.length_map, List.length_range]; exact Nat.le_refl _
    have h2 : i * (C - l) ≤ 5 * 5 := Nat.mul_le_mul (by omega) (by omega)
    rw [List.length_append, List.length_map, List.length_map, List.length_range]
    omega
  have g := lrights (R := R) (acc ++ ((List.range i).flatMap fun b => (List.range (C - l)).map fun r => (t, l, t + b, l + r)).map rectD) hC t l (t + i) hl
  have ad := PD.add_list hlen
  have step : l1__law_rectangles (eL R C (acc ++ ((List.range i).flatMap fun b => (List.range (C - l)).map fun r => (t, l, t + b, l + r)).map rectD) (some t) (some l) (some (t + i))) =
      some (.nx (eL R C ((acc ++ ((List.range i).flatMap fun b => (List.range (C - l)).map fun r => (t, l, t + b, l + r)).map rectD) ++ ((List.range (C - l)).map fun r => rectD (t, l, t + i, l + r))) (some t) (some l) (some (t + i)))) := by
    generalize (acc ++ ((List.range i).flatMap fun b => (List.range (C - l)).map fun r => (t, l, t + b, l + r)).map rectD) = A at g ad
    generalize ((List.range (C - l)).map fun r => rectD (t, l, t + i, l + r)) = B at g ad
    clear hlen e
    unfold l1__law_rectangles
    simp only [eL, oS] at g ⊢
    walk_at "pd"
    rw [g]
    walk_at "pd"
    rw [ad]
    walk_at "pd"
  have st : turnOf (gN 5) l1__law_rectangles [5, 6] (.int ((t + i : Nat) : Int)) (eL R C (acc ++ ((List.range i).flatMap fun b => (List.range (C - l)).map fun r => (t, l, t + b, l + r)).map rectD) (some t) (some l) none) =
      some (eL R C ((acc ++ ((List.range i).flatMap fun b => (List.range (C - l)).map fun r => (t, l, t + b, l + r)).map rectD) ++ ((List.range (C - l)).map fun r => rectD (t, l, t + i, l + r))) (some t) (some l) none) := turn_gN step rfl
  rw [st, flat_last, List.map_append, ← List.append_assoc, List.map_map]
  rfl
theorem lcols (acc : List D) (hR : R ≤ 5) (hC : C ≤ 5) (ha : acc.length ≤ 9000) (t : Nat) (ht : t ≤ R) :
    dFor (dRg1 (dVar 1)) (gN 4) l2__law_rectangles [4, 5, 6] (eL R C acc (some t) none none) = some (.nx (eL R C (acc ++ (rCol R C t).map rectD) (some t) none none)) := by
  refine dFor_at (n := C) (fun i => eL R C (acc ++ ((List.range i).flatMap fun l => rRow R C t l).map rectD) (some t) none none) (rgD 0 C)
    (by rw [List.range_zero, List.flatMap_nil, List.map_nil, List.append_nil]; exact rg1_var (n := C) rfl (by omega)) (rgD_len _ _) fun i d hd => ?_
  obtain ⟨hi, rfl⟩ := rgD_at hd
  rw [Int.zero_add]
  have hl := len_rCols hR hC t i (by omega)
  have step : l2__law_rectangles (eL R C (acc ++ ((List.range i).flatMap fun l => rRow R C t l).map rectD) (some t) (some i) none) =
      some (.nx (eL R C ((acc ++ ((List.range i).flatMap fun l => rRow R C t l).map rectD) ++ (rRow R C t i).map rectD) (some t) (some i) none)) :=
    lrows (acc ++ ((List.range i).flatMap fun l => rRow R C t l).map rectD) hR hC (by rw [List.length_append, List.length_map]; omega) t i ht (by omega)
  have st : turnOf (gN 4) l2__law_rectangles [4, 5, 6] (.int (i : Int)) (eL R C (acc ++ ((List.range i).flatMap fun l => rRow R C t l).map rectD) (some t) none none) =
      some (eL R C ((acc ++ ((List.range i).flatMap fun l => rRow R C t l).map rectD) ++ (rRow R C t i).map rectD) (some t) none none) := turn_gN step rfl
  rw [st, flat_last, List.map_append, ← List.append_assoc]
theorem d_law_rectangles (hR : R ≤ 5) (hC : C ≤ 5) : m__law_rectangles [.int (R : Int), .int (C : Int)] = some (true, .list ((rects R C).map rectD)) := by
  have all : dFor (dRg1 (dVar 0)) (gN 3) l3__law_rectangles [3, 4, 5, 6] (eL R C [] none none none) = some (.nx (eL R C ((rects R C).map rectD) none none none)) := by
    refine dFor_at (n := R) (fun i => eL R C (((List.range i).flatMap fun t => rCol R C t).map rectD) none none none) (rgD 0 R) (rg1_var (n := R) rfl (by omega)) (rgD_len _ _) fun i d hd => ?_
    obtain ⟨hi, rfl⟩ := rgD_at hd
    rw [Int.zero_add]
    have hl := len_flat (f := fun t => rCol R C t) (k := 125) i fun t _ => len_rCols hR hC t C (Nat.le_refl _)
    have step : l3__law_rectangles (eL R C (((List.range i).flatMap fun t => rCol R C t).map rectD) (some i) none none) =
        some (.nx (eL R C ((((List.range i).flatMap fun t => rCol R C t).map rectD) ++ (rCol R C i).map rectD) (some i) none none)) :=
      lcols (((List.range i).flatMap fun t => rCol R C t).map rectD) hR hC (by rw [List.length_map]; omega) i (by omega)
    have st : turnOf (gN 3) l3__law_rectangles [3, 4, 5, 6] (.int (i : Int)) (eL R C (((List.range i).flatMap fun t => rCol R C t).map rectD) none none none) =
        some (eL R C ((((List.range i).flatMap fun t => rCol R C t).map rectD) ++ (rCol R C i).map rectD) none none none) := turn_gN step rfl
    rw [st, flat_last, List.map_append]
  unfold m__law_rectangles b__law_rectangles
  simp only [eL, oS] at all
  clear hR hC
  walk_at "pd*"
end
/-! ### tables made of tables -/
def times (k : Int) (T : Tab) : Tab := T.map fun row => row.map fun x => k * x
theorem d_each {T : Tab} {k : Int} (hk : -100 ≤ k ∧ k ≤ 100) (h1 : T.length ≤ 100) (h2 : ∀ row ∈ T, row.length ≤ 100) : m__law_each [tabD T, .int k] = some (false, tabD (times k T)) := by
  have i0 := imm_tab T
  have lc : dLc (dItems (dVar 0)) (gN 3) dYes (dB1 bTuple (dLc (dItems (dVar 3)) (gN 2) dYes (dBin bMul (dVar 1) (dVar 2)) [2])) [3] ⟨false, [some (.sh (tabD T)), some (.sh (.int k)), none, none]⟩ = some (.fr (.list (T.map fun row => rowD (row.map fun x => k * x))), ⟨false, [some (.sh (tabD T)), some (.sh (.int k)), none, none]⟩) := by
    refine dLc_sh (emb := rowD) _ T (by unfold tabD; walk_at "pd") rfl (by omega) fun row hr => ?_
    have inn : dLc (dItems (dVar 3)) (gN 2) dYes (dBin bMul (dVar 1) (dVar 2)) [2] ⟨false, [some (.sh (tabD T)), some (.sh (.int k)), none, some (.sh (rowD row))]⟩ = some (.fr (.list (row.map fun x => .int (k * x))), ⟨false, [some (.sh (tabD T)), some (.sh (.int k)), none, some (.sh (rowD row))]⟩) := by
      refine dLc_sh (emb := PyData.int) _ row (by unfold rowD; walk_at "pd") rfl (by have := h2 row hr; omega) fun x hx => ?_
      have m1 : bMul (.int k) (.int x) = some (.sh (.int (k * x))) := PD.mul_int (.inl ⟨by omega, by omega⟩)
      clear hk
      walk_at "pd*"
    have e : rowD (row.map fun x => k * x) = .tuple (row.map fun x => .int (k * x)) := by unfold rowD; rw [List.map_map]; rfl
    rw [e]
    clear hk hr e
    walk_at "pd*"
  have e : tabD (times k T) = .tuple (T.map fun row => rowD (row.map fun x => k * x)) := by unfold tabD times; rw [List.map_map]; rfl
  rw [e]
  unfold m__law_each b__law_each
  clear hk h1 h2 e
  walk_at "pd*"
end PD.K47
set_option Elab.async false
set_option linter.all false
set_option maxRecDepth 100000
set_option maxHeartbeats 4000000
namespace PD.K47
set_option autoImplicit false
open PySem PySem.Spec L2 PD
open PyProof.Rows hiding St
local macro_rules | `(tactic| walk_at "pd") => `(tactic| simp only [dC, dVar, dBin, dCmp_ap, dCmpT, wB, dChainT, dOfT, dTruT, dAndT, dOrT, dNotT, dAndV, dOrV, dNotV, dIf, dNeg, dNil, dCons, gives, give_vr, give_sh, give_fr, get_sh, get_fr, get_vr, En.at, En.with, Sl.d, dTup, dLst, dCut, dNo, dPart, bCut, dNx, dSeq, dIfS, dRet, dRetN, dBk, dCt, dDrop, dStIx, set_l0, set_l1, gN, gCons, gTup, gNil, dSet, dPar, dUnp, settle, puts, En.put, En.set, dItems, dRg1, dRg2, itemsOf, dB1, semOf, slots, endOf, dCall, gets, light_f, light_t, wOf_f, wOf_t, is_nn, is_bn, is_in, is_sn, is_ln, is_tn, is_bb, isn_nn, isn_bn, isn_in, isn_sn, isn_ln, isn_tn, isn_bb, tyD_list, tyD_dict, eq_self, imm_none, imm_bool, imm_int, imm_str, imm_tup, imm_list, imms_nil, imms_cons, inner_list,
  isi_int, isi_bool, isi_tuple, isi_list, isi_str, isi_dict, isInt, isBool, isTup, isLst, isStr, isDic, En.wipe, wipeS, restoreS, dMut, En.mine, En.own, dEnum, dZip, tru_none, tru_bool, tru_int, tru_list, tru_tup, len_list, len_tup, len_dict, PD.add_int, PD.sub_int, int_int, abs_int, le_int, lt_int, gt_int, ge_int, PD.eq_int, PD.ne_int, PD.ne_bool, PD.eq_bool, PD.eq_nil, ix_tup0, ix_tup1, ix_tup2, ix_tup3, ix_list0, ix_list1, tup_list, tup_tup, lst_list, lst_tup, dCallC, notVr, semC,
  Option.bind_some, Option.map_some, Option.bind_none, Option.map_none, List.getElem?_cons_zero, List.getElem?_cons_succ, List.length_cons, List.length_nil, List.map_cons, List.map_nil, List.replicate, List.append_nil, List.nil_append, List.cons_append, List.set_cons_zero, List.set_cons_succ, List.all_cons, List.all_nil, Nat.sub_self, Nat.reduceAdd, Nat.reduceSub, Nat.reduceLT, Nat.reduceEqDiff, List.mem_cons, List.not_mem_nil,  Nat.reduceLeDiff, if_true, if_false, reduceIte, ite_self, Bool.false_eq_true, Bool.not_true, Bool.not_false, decide_true, decide_false, Option.getD_some, Option.getD_none, Bool.true_and, Bool.and_true, Bool.false_and, Bool.and_false, false_and, and_false, true_and, and_true, not_true_eq_false, not_false_eq_true, or_self, or_false, false_or, List.isEmpty_cons, List.isEmpty_nil, Nat.zero_ne_one])
local macro_rules | `(tactic| walk_at "pd*") => `(tactic| simp only [dC, dVar, dBin, dCmp_ap, dCmpT, wB, dChainT, dOfT, dTruT, dAndT, dOrT, dNotT, dAndV, dOrV, dNotV, dIf, dNeg, dNil, dCons, gives, give_vr, give_sh, give_fr, get_sh, get_fr, get_vr, En.at, En.with, Sl.d, dTup, dLst, dCut, dNo, dPart, bCut, dNx, dSeq, dIfS, dRet, dRetN, dBk, dCt, dDrop, dStIx, set_l0, set_l1, gN, gCons, gTup, gNil, dSet, dPar, dUnp, settle, puts, En.put, En.set, dItems, dRg1, dRg2, itemsOf, dB1, semOf, slots, endOf, dCall, gets, light_f, light_t, wOf_f, wOf_t, is_nn, is_bn, is_in, is_sn, is_ln, is_tn, is_bb, isn_nn, isn_bn, isn_in, isn_sn, isn_ln, isn_tn, isn_bb, tyD_list, tyD_dict, eq_self, imm_none, imm_bool, imm_int, imm_str, imm_tup, imm_list, imms_nil, imms_cons, inner_list,
  isi_int, isi_bool, isi_tuple, isi_list, isi_str, isi_dict, isInt, isBool, isTup, isLst, isStr, isDic, En.wipe, wipeS, restoreS, dMut, En.mine, En.own, dEnum, dZip, tru_none, tru_bool, tru_int, tru_list, tru_tup, len_list, len_tup, len_dict, PD.add_int, PD.sub_int, int_int, abs_int, le_int, lt_int, gt_int, ge_int, PD.eq_int, PD.ne_int, PD.ne_bool, PD.eq_bool, PD.eq_nil, ix_tup0, ix_tup1, ix_tup2, ix_tup3, ix_list0, ix_list1, tup_list, tup_tup, lst_list, lst_tup, dCallC, notVr, semC,
  Option.bind_some, Option.map_some, Option.bind_none, Option.map_none, List.getElem?_cons_zero, List.getElem?_cons_succ, List.length_cons, List.length_nil, List.map_cons, List.map_nil, List.replicate, List.append_nil, List.nil_append, List.cons_append, List.set_cons_zero, List.set_cons_succ, List.all_cons, List.all_nil, Nat.sub_self, Nat.reduceAdd, Nat.reduceSub, Nat.reduceLT, Nat.reduceEqDiff, List.mem_cons, List.not_mem_nil,  Nat.reduceLeDiff, if_true, if_false, reduceIte, ite_self, Bool.false_eq_true, Bool.not_true, Bool.not_false, decide_true, decide_false, Option.getD_some, Option.getD_none, Bool.true_and, Bool.and_true, Bool.false_and, Bool.and_false, false_and, and_false, true_and, and_true, not_true_eq_false, not_false_eq_true, or_self, or_false, false_or, List.isEmpty_cons, List.isEmpty_nil, Nat.zero_ne_one, *])
/-! ### sameness -/
def plainD : Nat → D → Bool
  | 0, _ => false
  | n + 1, d => match d with
    | .none => true
    | .bool _ => true
    | .int _ => true
    | .tuple ds => ds.all (plainD n) && decide (ds.length ≤ 100000)
    | .list ds => ds.all (plainD n) && decide (ds.length ≤ 100000)
    | _ => false
theorem same_items {n : Nat} {ds : List D} (ih : ∀ d, plainD n d = true → m__law_same n [d, d] = some (false, .bool true)) (h : ds.all (plainD n) = true) (hl : ds.length ≤ 100000) (d0 : D) (hb : bLen d0 = some (.sh (.int (ds.length : Int)))) (hx : ∀ (i : Nat) d, ds[i]? = some d → bIx d0 (.int (i : Int)) = some (.sh d)) :
    dLc (dRg1 (dB1 bLen (dVar 1))) (gN 2) (dNotT (dTruT (dCall (m__law_same n) (dCons (dBin bIx (dVar 0) (dVar 2)) (dCons (dBin bIx (dVar 1) (dVar 2)) dNil))))) (dC (.int 1)) [2] ⟨false, [some (.sh d0), some (.sh d0), none]⟩ = some (.fr (.list []), ⟨false, [some (.sh d0), some (.sh d0), none]⟩) := by
  have fi : dRg1 (dB1 bLen (dVar 1)) ⟨false, [some (.sh d0), some (.sh d0), none]⟩ = some (rgD 0 ds.length, ⟨false, [some (.sh d0), some (.sh d0), none]⟩) := by
    refine rg1_at ?_ (by omega)
    clear hx hl h
    walk_at "pd*"
  have := dLc_one (emb := fun (i : Nat) => PyData.int (i : Int)) (ft := dNotT (dTruT (dCall (m__law_same n) (dCons (dBin bIx (dVar 0) (dVar 2)) (dCons (dBin bIx (dVar 1) (dVar 2)) dNil))))) (fe := dC (.int 1)) (i := 2) (fun _ => false) (fun _ => .int 1) (List.range ds.length) fi (rgD_nat _) (by rw [List.length_range]; omega) (fun i hi => ?_) fun i hi z => by cases z
  · have e : (List.range ds.length).filter (fun _ => false) = [] := List.filter_eq_nil_iff.mpr (by simp)
    rw [e] at this
    exact this
  · have hi := List.mem_range.mp hi
    have g1 := hx i ds[i] (List.getElem?_eq_getElem hi)
    have g2 := ih ds[i] (List.all_eq_true.mp h _ (List.getElem_mem hi))
    clear hx ih h hl fi hb
    walk_at "pd*"
theorem same_refl : ∀ (n : Nat) (d : D), plainD n d = true → m__law_same n [d, d] = some (false, .bool true)
  | 0, _, h => by cases h
  | n + 1, d, h => by
    have ih := same_refl n
    show (if [d, d].length = 2 then semOf 3 (b__law_same (m__law_same n)) [d, d] else none) = _
    rw [if_pos (show [d, d].length = 2 from rfl)]
    cases d with
    | none => 
      clear ih
      unfold b__law_same
      walk_at "pd*"
    | bool b =>
      clear ih
      unfold b__law_same
      cases b <;> walk_at "pd*"
    | int i =>
      clear ih
      unfold b__law_same
      walk_at "pd*"
    | str x => cases h
    | dict k => cases h
    | tuple ds =>
      have h : (ds.all (plainD n) && decide (ds.length ≤ 100000)) = true := h
      rw [Bool.and_eq_true] at h
      have lc := same_items ih h.1 (of_decide_eq_true h.2) (.tuple ds) rfl fun i d hd => ix_tupN hd
      clear ih h
      unfold b__law_same
      walk_at "pd*"
    | list ds =>
      have h : (ds.all (plainD n) && decide (ds.length ≤ 100000)) = true := h
      rw [Bool.and_eq_true] at h
      have lc := same_items ih h.1 (of_decide_eq_true h.2) (.list ds) rfl fun i d hd => ix_listN hd
      clear ih h
      unfold b__law_same
      walk_at "pd*"
end PD.K47
set_option Elab.async false
set_option linter.all false
set_option maxRecDepth 100000
set_option maxHeartbeats 4000000
namespace PD.K47
set_option autoImplicit false
open PySem PySem.Spec L2 PD
open PyProof.Rows hiding St
local macro_rules | `(tactic| walk_at "pd") => `(tactic| simp only [dC, dVar, dBin, dCmp_ap, dCmpT, wB, dChainT, dOfT, dTruT, dAndT, dOrT, dNotT, dAndV, dOrV, dNotV, dIf, dNeg, dNil, dCons, gives, give_vr, give_sh, give_fr, get_sh, get_fr, get_vr, En.at, En.with, Sl.d, dTup, dLst, dCut, dNo, dPart, bCut, dNx, dSeq, dIfS, dRet, dRetN, dBk, dCt, dDrop, dStIx, set_l0, set_l1, gN, gCons, gTup, gNil, dSet, dPar, dUnp, settle, puts, En.put, En.set, dItems, dRg1, dRg2, itemsOf, dB1, semOf, slots, endOf, dCall, gets, light_f, light_t, wOf_f, wOf_t, is_nn, is_bn, is_in, is_sn, is_ln, is_tn, is_bb, isn_nn, isn_bn, isn_in, isn_sn, isn_ln, isn_tn, isn_bb, tyD_list, tyD_dict, eq_self, imm_none, imm_bool, imm_int, imm_str, imm_tup, imm_list, imms_nil, imms_cons, inner_list,
  isi_int, isi_bool, isi_tuple, isi_list, isi_str, isi_dict, isInt, isBool, isTup, isLst, isStr, isDic, En.wipe, wipeS, restoreS, dMut, En.mine, En.own, dEnum, dZip, tru_none, tru_bool, tru_int, tru_list, tru_tup, len_list, len_tup, len_dict, PD.add_int, PD.sub_int, int_int, abs_int, le_int, lt_int, gt_int, ge_int, PD.eq_int, PD.ne_int, PD.ne_bool, PD.eq_bool, PD.eq_nil, ix_tup0, ix_tup1, ix_tup2, ix_tup3, ix_list0, ix_list1, tup_list, tup_tup, lst_list, lst_tup, dCallC, notVr, semC,
  Option.bind_some, Option.map_some, Option.bind_none, Option.map_none, List.getElem?_cons_zero, List.getElem?_cons_succ, List.length_cons, List.length_nil, List.map_cons, List.map_nil, List.replicate, List.append_nil, List.nil_append, List.cons_append, List.set_cons_zero, List.set_cons_succ, List.all_cons, List.all_nil, Nat.sub_self, Nat.reduceAdd, Nat.reduceSub, Nat.reduceLT, Nat.reduceEqDiff, List.mem_cons, List.not_mem_nil,  Nat.reduceLeDiff, if_true, if_false, reduceIte, ite_self, Bool.false_eq_true, Bool.not_true, Bool.not_false, decide_true, decide_false, Option.getD_some, Option.getD_none, Bool.true_and, Bool.and_true, Bool.false_and, Bool.and_false, false_and, and_false, true_and, and_true, not_true_eq_false, not_false_eq_true, or_self, or_false, false_or, List.isEmpty_cons, List.isEmpty_nil, Nat.zero_ne_one])
local macro_rules | `(tactic| walk_at "pd*") => `(tactic| simp only [dC, dVar, dBin, dCmp_ap, dCmpT, wB, dChainT, dOfT, dTruT, dAndT, dOrT, dNotT, dAndV, dOrV, dNotV, dIf, dNeg, dNil, dCons, gives, give_vr, give_sh, give_fr, get_sh, get_fr, get_vr, En.at, En.with, Sl.d, dTup, dLst, dCut, dNo, dPart, bCut, dNx, dSeq, dIfS, dRet, dRetN, dBk, dCt, dDrop, dStIx, set_l0, set_l1, gN, gCons, gTup, gNil, dSet, dPar, dUnp, settle, puts, En.put, En.set, dItems, dRg1, dRg2, itemsOf, dB1, semOf, slots, endOf, dCall, gets, light_f, light_t, wOf_f, wOf_t, is_nn, is_bn, is_in, is_sn, is_ln, is_tn, is_bb, isn_nn, isn_bn, isn_in, isn_sn, isn_ln, isn_tn, isn_bb, tyD_list, tyD_dict, eq_self, imm_none, imm_bool, imm_int, imm_str, imm_tup, imm_list, imms_nil, imms_cons, inner_list,
  isi_int, isi_bool, isi_tuple, isi_list, isi_str, isi_dict, isInt, isBool, isTup, isLst, isStr, isDic, En.wipe, wipeS, restoreS, dMut, En.mine, En.own, dEnum, dZip, tru_none, tru_bool, tru_int, tru_list, tru_tup, len_list, len_tup, len_dict, PD.add_int, PD.sub_int, int_int, abs_int, le_int, lt_int, gt_int, ge_int, PD.eq_int, PD.ne_int, PD.ne_bool, PD.eq_bool, PD.eq_nil, ix_tup0, ix_tup1, ix_tup2, ix_tup3, ix_list0, ix_list1, tup_list, tup_tup, lst_list, lst_tup, dCallC, notVr, semC,
  Option.bind_some, Option.map_some, Option.bind_none, Option.map_none, List.getElem?_cons_zero, List.getElem?_cons_succ, List.length_cons, List.length_nil, List.map_cons, List.map_nil, List.replicate, List.append_nil, List.nil_append, List.cons_append, List.set_cons_zero, List.set_cons_succ, List.all_cons, List.all_nil, Nat.sub_self, Nat.reduceAdd, Nat.reduceSub, Nat.reduceLT, Nat.reduceEqDiff, List.mem_cons, List.not_mem_nil,  Nat.reduceLeDiff, if_true, if_false, reduceIte, ite_self, Bool.false_eq_true, Bool.not_true, Bool.not_false, decide_true, decide_false, Option.getD_some, Option.getD_none, Bool.true_and, Bool.and_true, Bool.false_and, Bool.and_false, false_and, and_false, true_and, and_true, not_true_eq_false, not_false_eq_true, or_self, or_false, false_or, List.isEmpty_cons, List.isEmpty_nil, Nat.zero_ne_one, *])
/-! ### sums over places -/
def nsum : Nat → (Nat → Int) → Int
  | 0, _ => 0
  | n + 1, f => nsum n f + f n
theorem nsum_congr {f g : Nat → Int} : ∀ n : Nat, (∀ k < n, f k = g k) → nsum n f = nsum n g
  | 0, _ => rfl
  | n + 1, h => by rw [nsum, nsum, nsum_congr n fun k hk => h k (by omega), h n (by omega)]
theorem nsum_zero : ∀ n : Nat, nsum n (fun _ => 0) = 0
  | 0 => rfl
  | n + 1 => by rw [nsum, nsum_zero n]; rfl
theorem nsum_add (f g : Nat → Int) : ∀ n : Nat, nsum n (fun k => f k + g k) = nsum n f + nsum n g
  | 0 => rfl
  | n + 1 => by rw [nsum, nsum, nsum, nsum_add f g n]; omega
theorem nsum_mul (c : Int) (f : Nat → Int) : ∀ n : Nat, nsum n (fun k => c * f k) = c * nsum n f
  | 0 => by rw [nsum, nsum, Int.mul_zero]
  | n + 1 => by rw [nsum, nsum, nsum_mul c f n, Int.mul_add]
theorem nsum_swap (f : Nat → Nat → Int) (j : Nat) : ∀ i : Nat, nsum i (fun a => nsum j (f a)) = nsum j (fun b => nsum i fun a => f a b)
  | 0 => by simp only [nsum]; rw [nsum_zero]
  | i + 1 => by
    simp only [nsum]
    rw [nsum_swap f j i, ← nsum_add]
theorem nsum_bound {f g : Nat → Int} (h : ∀ k, -(g k) ≤ f k ∧ f k ≤ g k) {m : Nat} : ∀ {n N : Nat}, m ≤ n → n ≤ N → -(nsum N g) ≤ nsum n f - nsum m f ∧ nsum n f - nsum m f ≤ nsum N g := by
  have g0 : ∀ k, 0 ≤ g k := fun k => by have := h k; omega
  have gn : ∀ n, 0 ≤ nsum n g := fun n => by
    induction n with
    | zero => exact Int.le_refl _
    | succ n ih => have := g0 n; rw [nsum]; omega
  have mono : ∀ {n N : Nat}, n ≤ N → nsum n g ≤ nsum N g := fun {n N} hn => by
    induction hn with
    | refl => exact Int.le_refl _
    | step _ ih => rename_i k _; have := g0 k; rw [nsum]; omega
  have main : ∀ n, m ≤ n → -(nsum n g - nsum m g) ≤ nsum n f - nsum m f ∧ nsum n f - nsum m f ≤ nsum n g - nsum m g := fun n hn => by
    induction hn with
    | refl => omega
    | step _ ih => rename_i k _; have := h k; rw [nsum, nsum]; omega
  intro n N h1 h2
  have a := main n h1
  have b := mono h2
  have c := gn m
  omega
def cell (T : Tab) (i j : Nat) : Int := ((T[i]?.getD [])[j]?).getD 0
theorem take_nsum (row : List Int) : ∀ j : Nat, (row.take j).sum = nsum j (fun b => (row[b]?).getD 0)
  | 0 => rfl
  | j + 1 => by
    rw [nsum, ← take_nsum row j, List.take_add_one, List.sum_append]
    cases row[j]? with
    | none => simp
    | some x => simp
theorem rows_nsum {F : List Int → Int} (h0 : F [] = 0) (T : Tab) : ∀ i : Nat, ((T.take i).map F).sum = nsum i (fun a => F (T[a]?.getD []))
  | 0 => rfl
  | i + 1 => by
    rw [nsum, ← rows_nsum h0 T i, List.take_add_one, List.map_append, List.sum_append]
    cases T[i]? with
    | none => simp [h0]
    | some x => simp
theorem pre_eq (T : Tab) (i j : Nat) : pre T i j = nsum i fun a => nsum j (cell T a) := by
  unfold pre
  rw [rows_nsum (F := fun row => (row.take j).sum) (by simp) T i]
  exact nsum_congr i fun a _ => take_nsum _ j
theorem cell_at {T : Tab} {i j : Nat} {row : List Int} {x : Int} (h : T[i]? = some row) (hx : row[j]? = some x) : cell T i j = x := by
  unfold cell
  rw [h, Option.getD_some, hx, Option.getD_some]
/-! ### multiplied -/
theorem cell_times (k : Int) (T : Tab) (i j : Nat) : cell (times k T) i j = k * cell T i j := by
  unfold cell times
  rw [List.getElem?_map]
  cases T[i]? with
  | none => simp
  | some row =>
    simp only [Option.map_some, Option.getD_some]
    rw [List.getElem?_map]
    cases row[j]? <;> simp
theorem pre_times (k : Int) (T : Tab) (i j : Nat) : pre (times k T) i j = k * pre T i j := by
  rw [pre_eq, pre_eq, ← nsum_mul]
  refine nsum_congr i fun a _ => ?_
  rw [← nsum_mul]
  exact nsum_congr j fun b _ => cell_times k T a b
theorem rs_times (k : Int) (T : Tab) (q : Rect) : rs (times k T) q = k * rs T q := by
  unfold rs
  rw [pre_times, pre_times, pre_times, pre_times, Int.mul_add, Int.mul_sub, Int.mul_sub]
/-! ### turned -/
def turn (T : Tab) (C : Nat) : Tab := (List.range C).map fun j => T.map fun row => (row[j]?).getD 0
def swapR (q : Rect) : Rect := (q.2.1, q.1, q.2.2.2, q.2.2.1)
theorem cell_turn (T : Tab) {C i j : Nat} (hi : i < T.length) (hj : j < C) : cell (turn T C) j i = cell T i j := by
  unfold cell turn
  rw [range_at hj, Option.getD_some, List.getElem?_map, List.getElem?_eq_getElem hi, Option.map_some, Option.getD_some, Option.getD_some]
theorem pre_turn (T : Tab) {C i j : Nat} (hi : i ≤ T.length) (hj : j ≤ C) : pre (turn T C) j i = pre T i j := by
  rw [pre_eq, pre_eq, nsum_swap]
  refine nsum_congr i fun a ha => nsum_congr j fun b hb => ?_
  exact cell_turn T (by omega) (by omega)
theorem rs_turn (T : Tab) {R C : Nat} (hR : T.length = R) {q : Rect} (h : InR R C q) : rs (turn T C) (swapR q) = rs T q := by
  obtain ⟨t, l, b, r⟩ := q
  obtain ⟨h1, h2, h3, h4⟩ := h
  have h1 : t ≤ b := h1
  have h2 : b < R := h2
  have h3 : l ≤ r := h3
  have h4 : r < C := h4
  unfold rs swapR
  simp only
  rw [pre_turn T (by omega) (by omega), pre_turn T (by omega) (by omega), pre_turn T (by omega) (by omega), pre_turn T (by omega) (by omega)]
  omega
/-! ### the rows backwards -/
def flipR (R : Nat) (q : Rect) : Rect := (R - 1 - q.2.2.1, q.2.1, R - 1 - q.1, q.2.2.2)
theorem cell_rev (T : Tab) {i j : Nat} (hi : i < T.length) : cell T.reverse i j = cell T (T.length - 1 - i) j := by
  unfold cell
  rw [List.getElem?_reverse hi]
theorem pre_rev (T : Tab) (j : Nat) : ∀ i : Nat, i ≤ T.length → pre T.reverse i j = pre T T.length j - pre T (T.length - i) j
  | 0, _ => by rw [Nat.sub_zero]; unfold pre; simp
  | i + 1, h => by
    have ih := pre_rev T j i (by omega)
    rw [pre_eq] at ih ⊢
    rw [nsum, ih]
    have e1 : nsum j (cell T.reverse i) = nsum j (cell T (T.length - 1 - i)) := nsum_congr j fun b _ => cell_rev T (by omega)
    rw [e1]
    have e2 : pre T (T.length - i) j = pre T (T.length - (i + 1)) j + nsum j (cell T (T.length - 1 - i)) := by
      rw [pre_eq, pre_eq, show T.length - i = (T.length - (i + 1)) + 1 by omega, nsum, show T.length - 1 - i = T.length - (i + 1) by omega]
    omega
theorem rs_rev (T : Tab) {R C : Nat} (hR : T.length = R) {q : Rect} (h : InR R C q) : rs T.reverse (flipR R q) = rs T q := by
  obtain ⟨t, l, b, r⟩ := q
  obtain ⟨h1, h2, h3, h4⟩ := h
  have h1 : t ≤ b := h1
  have h2 : b < R := h2
  unfold rs flipR
  simp only
  subst hR
  rw [pre_rev T _ _ (by omega), pre_rev T _ _ (by omega), pre_rev T _ _ (by omega), pre_rev T _ _ (by omega)]
  rw [show T.length - (T.length - 1 - t + 1) = t by omega, show T.length - (T.length - 1 - b) = b + 1 by omega]
  omega
/-! ### added -/
def addT (T U : Tab) : Tab := List.zipWith (fun a b => List.zipWith (· + ·) a b) T U
/-! ### the bound -/
def absI (x : Int) : Int := if x < 0 then -x else x
def bound (T : Tab) : Int := (T.map fun row => (row.map absI).sum).sum
theorem absI_le (x : Int) : -(absI x) ≤ x ∧ x ≤ absI x := by unfold absI; split <;> omega
theorem bound_eq (T : Tab) {R C : Nat} (hR : T.length = R) (hC : ∀ row ∈ T, row.length = C) : bound T = nsum R fun a => nsum C fun b => absI (cell T a b) := by
  unfold bound
  have e1 : T.take R = T := by rw [← hR, List.take_length]
  have := rows_nsum (F := fun row => (row.map absI).sum) (by simp) T R
  rw [e1] at this
  rw [this]
  refine nsum_congr R fun a ha => ?_
  have ha' : a < T.length := by omega
  have hl : (T[a]?.getD []).length = C := by
    rw [List.getElem?_eq_getElem ha', Option.getD_some]
    exact hC _ (List.getElem_mem ha')
  have e2 := take_nsum ((T[a]?.getD []).map absI) C
  rw [List.take_of_length_le (by rw [List.length_map, hl]; exact Nat.le_refl _)] at e2
  rw [e2]
  refine nsum_congr C fun b hb => ?_
  unfold cell
  rw [List.getElem?_map, List.getElem?_eq_getElem (by omega), Option.map_some, Option.getD_some, Option.getD_some]
theorem rs_bound (T : Tab) {R C : Nat} (hR : T.length = R) (hC : ∀ row ∈ T, row.length = C) {q : Rect} (h : InR R C q) : -(bound T) ≤ rs T q ∧ rs T q ≤ bound T := by
  obtain ⟨t, l, b, r⟩ := q
  obtain ⟨h1, h2, h3, h4⟩ := h
  have h1 : t ≤ b := h1
  have h2 : b < R := h2
  have h3 : l ≤ r := h3
  have h4 : r < C := h4
  have key := nsum_bound (f := fun a => nsum (r + 1) (cell T a) - nsum l (cell T a)) (g := fun a => nsum C fun b => absI (cell T a b)) (fun a => nsum_bound (fun b => absI_le (cell T a b)) (by omega) (by omega)) (m := t) (n := b + 1) (N := R) (by omega) (by omega)
  rw [← bound_eq T hR hC] at key
  have e : ∀ i, (nsum i fun a => nsum (r + 1) (cell T a) - nsum l (cell T a)) = pre T i (r + 1) - pre T i l := fun i => by
    rw [pre_eq, pre_eq]
    have := nsum_add (fun a => nsum (r + 1) (cell T a) - nsum l (cell T a)) (fun a => nsum l (cell T a)) i
    have e2 : (nsum i fun k => nsum (r + 1) (cell T k) - nsum l (cell T k) + nsum l (cell T k)) = nsum i fun a => nsum (r + 1) (cell T a) := nsum_congr i fun k _ => by omega
    rw [e2] at this
    omega
  rw [e, e] at key
  unfold rs
  simp only
  omega
end PD.K47
set_option Elab.async false
set_option linter.all false
set_option maxRecDepth 100000
set_option maxHeartbeats 4000000
namespace PD.K47
set_option autoImplicit false
open PySem PySem.Spec L2 PD
open PyProof.Rows hiding St
local macro_rules | `(tactic| walk_at "pd") => `(tactic| simp only [dC, dVar, dBin, dCmp_ap, dCmpT, wB, dChainT, dOfT, dTruT, dAndT, dOrT, dNotT, dAndV, dOrV, dNotV, dIf, dNeg, dNil, dCons, gives, give_vr, give_sh, give_fr, get_sh, get_fr, get_vr, En.at, En.with, Sl.d, dTup, dLst, dCut, dNo, dPart, bCut, dNx, dSeq, dIfS, dRet, dRetN, dBk, dCt, dDrop, dStIx, set_l0, set_l1, gN, gCons, gTup, gNil, dSet, dPar, dUnp, settle, puts, En.put, En.set, dItems, dRg1, dRg2, itemsOf, dB1, semOf, slots, endOf, dCall, gets, light_f, light_t, wOf_f, wOf_t, is_nn, is_bn, is_in, is_sn, is_ln, is_tn, is_bb, isn_nn, isn_bn, isn_in, isn_sn, isn_ln, isn_tn, isn_bb, tyD_list, tyD_dict, eq_self, imm_none, imm_bool, imm_int, imm_str, imm_tup, imm_list, imms_nil, imms_cons, inner_list,
  isi_int, isi_bool, isi_tuple, isi_list, isi_str, isi_dict, isInt, isBool, isTup, isLst, isStr, isDic, En.wipe, wipeS, restoreS, dMut, En.mine, En.own, dEnum, dZip, tru_none, tru_bool, tru_int, tru_list, tru_tup, len_list, len_tup, len_dict, PD.add_int, PD.sub_int, int_int, abs_int, le_int, lt_int, gt_int, ge_int, PD.eq_int, PD.ne_int, PD.ne_bool, PD.eq_bool, PD.eq_nil, ix_tup0, ix_tup1, ix_tup2, ix_tup3, ix_list0, ix_list1, tup_list, tup_tup, lst_list, lst_tup, dCallC, notVr, semC,
  Option.bind_some, Option.map_some, Option.bind_none, Option.map_none, List.getElem?_cons_zero, List.getElem?_cons_succ, List.length_cons, List.length_nil, List.map_cons, List.map_nil, List.replicate, List.append_nil, List.nil_append, List.cons_append, List.set_cons_zero, List.set_cons_succ, List.all_cons, List.all_nil, Nat.sub_self, Nat.reduceAdd, Nat.reduceSub, Nat.reduceLT, Nat.reduceEqDiff, List.mem_cons, List.not_mem_nil,  Nat.reduceLeDiff, if_true, if_false, reduceIte, ite_self, Bool.false_eq_true, Bool.not_true, Bool.not_false, decide_true, decide_false, Option.getD_some, Option.getD_none, Bool.true_and, Bool.and_true, Bool.false_and, Bool.and_false, false_and, and_false, true_and, and_true, not_true_eq_false, not_false_eq_true, or_self, or_false, false_or, List.isEmpty_cons, List.isEmpty_nil, Nat.zero_ne_one])
local macro_rules | `(tactic| walk_at "pd*") => `(tactic| simp only [dC, dVar, dBin, dCmp_ap, dCmpT, wB, dChainT, dOfT, dTruT, dAndT, dOrT, dNotT, dAndV, dOrV, dNotV, dIf, dNeg, dNil, dCons, gives, give_vr, give_sh, give_fr, get_sh, get_fr, get_vr, En.at, En.with, Sl.d, dTup, dLst, dCut, dNo, dPart, bCut, dNx, dSeq, dIfS, dRet, dRetN, dBk, dCt, dDrop, dStIx, set_l0, set_l1, gN, gCons, gTup, gNil, dSet, dPar, dUnp, settle, puts, En.put, En.set, dItems, dRg1, dRg2, itemsOf, dB1, semOf, slots, endOf, dCall, gets, light_f, light_t, wOf_f, wOf_t, is_nn, is_bn, is_in, is_sn, is_ln, is_tn, is_bb, isn_nn, isn_bn, isn_in, isn_sn, isn_ln, isn_tn, isn_bb, tyD_list, tyD_dict, eq_self, imm_none, imm_bool, imm_int, imm_str, imm_tup, imm_list, imms_nil, imms_cons, inner_list,
  isi_int, isi_bool, isi_tuple, isi_list, isi_str, isi_dict, isInt, isBool, isTup, isLst, isStr, isDic, En.wipe, wipeS, restoreS, dMut, En.mine, En.own, dEnum, dZip, tru_none, tru_bool, tru_int, tru_list, tru_tup, len_list, len_tup, len_dict, PD.add_int, PD.sub_int, int_int, abs_int, le_int, lt_int, gt_int, ge_int, PD.eq_int, PD.ne_int, PD.ne_bool, PD.eq_bool, PD.eq_nil, ix_tup0, ix_tup1, ix_tup2, ix_tup3, ix_list0, ix_list1, tup_list, tup_tup, lst_list, lst_tup, dCallC, notVr, semC,
  Option.bind_some, Option.map_some, Option.bind_none, Option.map_none, List.getElem?_cons_zero, List.getElem?_cons_succ, List.length_cons, List.length_nil, List.map_cons, List.map_nil, List.replicate, List.append_nil, List.nil_append, List.cons_append, List.set_cons_zero, List.set_cons_succ, List.all_cons, List.all_nil, Nat.sub_self, Nat.reduceAdd, Nat.reduceSub, Nat.reduceLT, Nat.reduceEqDiff, List.mem_cons, List.not_mem_nil,  Nat.reduceLeDiff, if_true, if_false, reduceIte, ite_self, Bool.false_eq_true, Bool.not_true, Bool.not_false, decide_true, decide_false, Option.getD_some, Option.getD_none, Bool.true_and, Bool.and_true, Bool.false_and, Bool.and_false, false_and, and_false, true_and, and_true, not_true_eq_false, not_false_eq_true, or_self, or_false, false_or, List.isEmpty_cons, List.isEmpty_nil, Nat.zero_ne_one, *])
/-! ### counting -/
def cnt (T : Tab) (V : List Rect) (n : Int) : Nat := (V.filter fun q => decide (rs T q = n)).length
theorem sum_ind (c : Nat) : ∀ n : Nat, ((List.range n).map fun i => if c = i then (1 : Nat) else 0).sum = if c < n then 1 else 0
  | 0 => by simp
  | n + 1 => by
    rw [List.range_succ, List.map_append, List.sum_append, sum_ind c n]
    simp only [List.map_cons, List.map_nil, List.sum_cons, List.sum_nil]
    split <;> split <;> split <;> omega
theorem sum_add_map (f g : Nat → Nat) : ∀ l : List Nat, (l.map fun i => f i + g i).sum = (l.map f).sum + (l.map g).sum
  | [] => rfl
  | x :: l => by simp only [List.map_cons, List.sum_cons, sum_add_map f g l]; omega
theorem cnt_total (T : Tab) (lo : Int) (n : Nat) : ∀ V : List Rect, (∀ q ∈ V, lo ≤ rs T q ∧ rs T q < lo + n) → ((List.range n).map fun (i : Nat) => cnt T V (lo + (i : Int))).sum = V.length
  | [], _ => by
    have : (List.range n).map (fun (i : Nat) => cnt T [] (lo + (i : Int))) = (List.range n).map fun i => if n + 1 = i then (1 : Nat) else 0 := List.map_congr_left fun i hi => by
      have := List.mem_range.mp hi
      rw [if_neg (by omega)]
      rfl
    rw [this, sum_ind, if_neg (by omega)]
    rfl
  | q :: V, h => by
    have hq := h q List.mem_cons_self
    have ih := cnt_total T lo n V fun p hp => h p (List.mem_cons_of_mem _ hp)
    have e : (List.range n).map (fun (i : Nat) => cnt T (q :: V) (lo + (i : Int))) = (List.range n).map fun (i : Nat) => (if (rs T q - lo).toNat = i then (1 : Nat) else 0) + cnt T V (lo + (i : Int)) := List.map_congr_left fun i hi => by
      have := List.mem_range.mp hi
      unfold cnt
      by_cases hc : rs T q = lo + (i : Int)
      · rw [List.filter_cons_of_pos (by simp [hc]), List.length_cons, if_pos (by omega)]
        omega
      · rw [List.filter_cons_of_neg (by simp [hc]), if_neg (by omega)]
        omega
    rw [e, sum_add_map, ih, sum_ind, if_pos (by omega), List.length_cons]
    omega
theorem cnt_pos {T : Tab} {V : List Rect} {n : Int} : 0 < cnt T V n ↔ ∃ q ∈ V, rs T q = n := by
  unfold cnt
  rw [List.length_pos_iff_exists_mem]
  constructor
  · rintro ⟨q, hq⟩
    have := List.mem_filter.mp hq
    exact ⟨q, this.1, of_decide_eq_true this.2⟩
  · rintro ⟨q, hq, e⟩
    exact ⟨q, List.mem_filter.mpr ⟨hq, decide_eq_true e⟩⟩
theorem cnt_map {T U : Tab} {V W : List Rect} {k : Rect → Rect} {n m : Int} (hp : List.Perm W (V.map k)) (h : ∀ q ∈ V, (rs U (k q) = m ↔ rs T q = n)) : cnt U W m = cnt T V n := by
  unfold cnt
  rw [(hp.filter _).length_eq, List.filter_map, List.length_map]
  congr 1
  exact List.filter_congr fun q hq => decide_eq_decide.mpr (h q hq)
theorem cnt_same {T U : Tab} {V : List Rect} {n m : Int} (h : ∀ q ∈ V, (rs U q = m ↔ rs T q = n)) : cnt U V m = cnt T V n := by
  unfold cnt
  congr 1
  exact List.filter_congr fun q hq => decide_eq_decide.mpr (h q hq)
/-! ### the greatest, the first one -/
theorem best_ok (T : Tab) : ∀ (V : List Rect), V ≠ [] → ∃ p, V.foldl (beats T) none = some p ∧ p ∈ V ∧ (∀ q ∈ V, rs T q ≤ rs T p) ∧ (V.filter fun q => decide (rs T q = rs T p)).head? = some p := by
  have key : ∀ (U : List Rect), U ≠ [] → ∃ p, U.reverse.foldl (beats T) none = some p ∧ p ∈ U.reverse ∧ (∀ q ∈ U.reverse, rs T q ≤ rs T p) ∧ (U.reverse.filter fun q => decide (rs T q = rs T p)).head? = some p := by
    intro U
    induction U with
    | nil => intro h; exact absurd rfl h
    | cons q U ih =>
      intro _
      rw [List.reverse_cons, List.foldl_append]
      by_cases hU : U = []
      · subst hU
        exact ⟨q, rfl, by simp, by simp, by simp⟩
      · obtain ⟨p, e, hp, hm, hf⟩ := ih hU
        rw [e]
        by_cases hc : rs T p < rs T q
        · refine ⟨q, by show (if rs T p < rs T q then some q else some p) = some q; rw [if_pos hc], by simp, fun r hr => ?_, ?_⟩
          · rcases List.mem_append.mp hr with hr | hr
            · have := hm r hr; omega
            · rw [List.mem_singleton.mp hr]; exact Int.le_refl _
          · rw [List.filter_append]
            have : U.reverse.filter (fun r => decide (rs T r = rs T q)) = [] := List.filter_eq_nil_iff.mpr fun r hr => by
              have := hm r hr
              simp only [decide_eq_true_eq]
              omega
            rw [this]
            simp
        · refine ⟨p, by show (if rs T p < rs T q then some q else some p) = some p; rw [if_neg hc], by simp only [List.mem_append]; exact .inl hp, fun r hr => ?_, ?_⟩
          · rcases List.mem_append.mp hr with hr | hr
            · exact hm r hr
            · rw [List.mem_singleton.mp hr]; omega
          · rw [List.filter_append, List.head?_append, hf]
            rfl
  intro V hV
  have := key V.reverse (by simpa using hV)
  rwa [List.reverse_reverse] at this
theorem best_times {T : Tab} {k : Int} (hk : 0 < k) (V : List Rect) (s : Option Rect) : V.foldl (beats (times k T)) s = V.foldl (beats T) s := by
  have e : beats (times k T) = beats T := by
    funext s q
    unfold beats
    cases s with
    | none => rfl
    | some p =>
      simp only
      have h : (rs (times k T) p < rs (times k T) q) ↔ (rs T p < rs T q) := by
        rw [rs_times, rs_times]
        exact ⟨fun z => Int.lt_of_mul_lt_mul_left z (Int.le_of_lt hk), fun z => Int.mul_lt_mul_of_pos_left z hk⟩
      by_cases z : rs T p < rs T q
      · rw [if_pos z, if_pos (h.mpr z)]
      · rw [if_neg z, if_neg fun y => z (h.mp y)]
  rw [e]
/-! ### the shapes -/
theorem shapes : ∀ R ∈ [1, 2, 3, 4], ∀ C ∈ [1, 2, 3, 4, 5], (((rects R C).map swapR).isPerm (rects C R) && ((rects R C).map (flipR R)).isPerm (rects R C) && decide ((rects R C).length * 4 = R * (R + 1) * (C * (C + 1)))) = true := by decide +kernel
end PD.K47
set_option Elab.async false
set_option linter.all false
set_option maxRecDepth 100000
set_option maxHeartbeats 4000000
namespace PD.K47
set_option autoImplicit false
open PySem PySem.Spec L2 PD
open PyProof.Rows hiding St
local macro_rules | `(tactic| walk_at "pd") => `(tactic| simp only [dC, dVar, dBin, dCmp_ap, dCmpT, wB, dChainT, dOfT, dTruT, dAndT, dOrT, dNotT, dAndV, dOrV, dNotV, dIf, dNeg, dNil, dCons, gives, give_vr, give_sh, give_fr, get_sh, get_fr, get_vr, En.at, En.with, Sl.d, dTup, dLst, dCut, dNo, dPart, bCut, dNx, dSeq, dIfS, dRet, dRetN, dBk, dCt, dDrop, dStIx, set_l0, set_l1, gN, gCons, gTup, gNil, dSet, dPar, dUnp, settle, puts, En.put, En.set, dItems, dRg1, dRg2, itemsOf, dB1, semOf, slots, endOf, dCall, gets, light_f, light_t, wOf_f, wOf_t, is_nn, is_bn, is_in, is_sn, is_ln, is_tn, is_bb, isn_nn, isn_bn, isn_in, isn_sn, isn_ln, isn_tn, isn_bb, tyD_list, tyD_dict, eq_self, imm_none, imm_bool, imm_int, imm_str, imm_tup, imm_list, imms_nil, imms_cons, inner_list,
  isi_int, isi_bool, isi_tuple, isi_list, isi_str, isi_dict, isInt, isBool, isTup, isLst, isStr, isDic, En.wipe, wipeS, restoreS, dMut, En.mine, En.own, dEnum, dZip, tru_none, tru_bool, tru_int, tru_list, tru_tup, len_list, len_tup, len_dict, PD.add_int, PD.sub_int, int_int, abs_int, le_int, lt_int, gt_int, ge_int, PD.eq_int, PD.ne_int, PD.ne_bool, PD.eq_bool, PD.eq_nil, ix_tup0, ix_tup1, ix_tup2, ix_tup3, ix_list0, ix_list1, tup_list, tup_tup, lst_list, lst_tup, dCallC, notVr, semC,
  Option.bind_some, Option.map_some, Option.bind_none, Option.map_none, List.getElem?_cons_zero, List.getElem?_cons_succ, List.length_cons, List.length_nil, List.map_cons, List.map_nil, List.replicate, List.append_nil, List.nil_append, List.cons_append, List.set_cons_zero, List.set_cons_succ, List.all_cons, List.all_nil, Nat.sub_self, Nat.reduceAdd, Nat.reduceSub, Nat.reduceLT, Nat.reduceEqDiff, List.mem_cons, List.not_mem_nil,  Nat.reduceLeDiff, if_true, if_false, reduceIte, ite_self, Bool.false_eq_true, Bool.not_true, Bool.not_false, decide_true, decide_false, Option.getD_some, Option.getD_none, Bool.true_and, Bool.and_true, Bool.false_and, Bool.and_false, false_and, and_false, true_and, and_true, not_true_eq_false, not_false_eq_true, or_self, or_false, false_or, List.isEmpty_cons, List.isEmpty_nil, Nat.zero_ne_one])
local macro_rules | `(tactic| walk_at "pd*") => `(tactic| simp only [dC, dVar, dBin, dCmp_ap, dCmpT, wB, dChainT, dOfT, dTruT, dAndT, dOrT, dNotT, dAndV, dOrV, dNotV, dIf, dNeg, dNil, dCons, gives, give_vr, give_sh, give_fr, get_sh, get_fr, get_vr, En.at, En.with, Sl.d, dTup, dLst, dCut, dNo, dPart, bCut, dNx, dSeq, dIfS, dRet, dRetN, dBk, dCt, dDrop, dStIx, set_l0, set_l1, gN, gCons, gTup, gNil, dSet, dPar, dUnp, settle, puts, En.put, En.set, dItems, dRg1, dRg2, itemsOf, dB1, semOf, slots, endOf, dCall, gets, light_f, light_t, wOf_f, wOf_t, is_nn, is_bn, is_in, is_sn, is_ln, is_tn, is_bb, isn_nn, isn_bn, isn_in, isn_sn, isn_ln, isn_tn, isn_bb, tyD_list, tyD_dict, eq_self, imm_none, imm_bool, imm_int, imm_str, imm_tup, imm_list, imms_nil, imms_cons, inner_list,
  isi_int, isi_bool, isi_tuple, isi_list, isi_str, isi_dict, isInt, isBool, isTup, isLst, isStr, isDic, En.wipe, wipeS, restoreS, dMut, En.mine, En.own, dEnum, dZip, tru_none, tru_bool, tru_int, tru_list, tru_tup, len_list, len_tup, len_dict, PD.add_int, PD.sub_int, int_int, abs_int, le_int, lt_int, gt_int, ge_int, PD.eq_int, PD.ne_int, PD.ne_bool, PD.eq_bool, PD.eq_nil, ix_tup0, ix_tup1, ix_tup2, ix_tup3, ix_list0, ix_list1, tup_list, tup_tup, lst_list, lst_tup, dCallC, notVr, semC,
  Option.bind_some, Option.map_some, Option.bind_none, Option.map_none, List.getElem?_cons_zero, List.getElem?_cons_succ, List.length_cons, List.length_nil, List.map_cons, List.map_nil, List.replicate, List.append_nil, List.nil_append, List.cons_append, List.set_cons_zero, List.set_cons_succ, List.all_cons, List.all_nil, Nat.sub_self, Nat.reduceAdd, Nat.reduceSub, Nat.reduceLT, Nat.reduceEqDiff, List.mem_cons, List.not_mem_nil,  Nat.reduceLeDiff, if_true, if_false, reduceIte, ite_self, Bool.false_eq_true, Bool.not_true, Bool.not_false, decide_true, decide_false, Option.getD_some, Option.getD_none, Bool.true_and, Bool.and_true, Bool.false_and, Bool.and_false, false_and, and_false, true_and, and_true, not_true_eq_false, not_false_eq_true, or_self, or_false, false_or, List.isEmpty_cons, List.isEmpty_nil, Nat.zero_ne_one, *])
/-! ### _law_counts_right -/
theorem Drawn.fits {T : Tab} {R C : Nat} (h : Drawn T R C) (hR : 1 ≤ R ∧ R ≤ 4) (hC : 1 ≤ C ∧ C ≤ 5) : Fits T R C :=
  ⟨h.r, h.c, hR.1, by omega, hC.1, hC.2, fun row hr x hx => by have := h.e row hr x hx; omega⟩
theorem Drawn.times {T : Tab} {R C : Nat} (h : Drawn T R C) (hR : 1 ≤ R ∧ R ≤ 4) (hC : 1 ≤ C ∧ C ≤ 5) {k : Int} (hk : -100 ≤ k ∧ k ≤ 100) : Fits (times k T) R C := by
  refine ⟨by unfold K47.times; rw [List.length_map]; exact h.r, fun row hr => ?_, hR.1, by omega, hC.1, hC.2, fun row hr x hx => ?_⟩
  · unfold K47.times at hr
    obtain ⟨r0, h0, rfl⟩ := List.mem_map.mp hr
    rw [List.length_map]
    exact h.c r0 h0
  · unfold K47.times at hr
    obtain ⟨r0, h0, rfl⟩ := List.mem_map.mp hr
    obtain ⟨y, hy, rfl⟩ := List.mem_map.mp hx
    have := h.e r0 h0 y hy
    constructor
    · have a := Int.mul_le_mul_of_nonneg_left (show (0:Int) ≤ 4 by decide) (show (0:Int) ≤ 4 by decide)
      have b : k * y ≥ -1000000 := by
        have h1 : -100 ≤ k ∧ k ≤ 100 := hk
        have h2 : -3 ≤ y ∧ y ≤ 4 := this
        have : y = -3 ∨ y = -2 ∨ y = -1 ∨ y = 0 ∨ y = 1 ∨ y = 2 ∨ y = 3 ∨ y = 4 := by omega
        rcases this with rfl | rfl | rfl | rfl | rfl | rfl | rfl | rfl <;> omega
      exact b
    · have h1 : -100 ≤ k ∧ k ≤ 100 := hk
      have h2 : -3 ≤ y ∧ y ≤ 4 := this
      have : y = -3 ∨ y = -2 ∨ y = -1 ∨ y = 0 ∨ y = 1 ∨ y = 2 ∨ y = 3 ∨ y = 4 := by omega
      rcases this with rfl | rfl | rfl | rfl | rfl | rfl | rfl | rfl <;> omega
theorem Fits.turn {T : Tab} {R C : Nat} (h : Drawn T R C) (hR : 1 ≤ R ∧ R ≤ 4) (hC : 1 ≤ C ∧ C ≤ 5) : Fits (K47.turn T C) C R := by
  refine ⟨by unfold K47.turn; rw [List.length_map, List.length_range], fun row hr => ?_, hC.1, hC.2, hR.1, by omega, fun row hr x hx => ?_⟩
  · unfold K47.turn at hr
    obtain ⟨j, _, rfl⟩ := List.mem_map.mp hr
    rw [List.length_map]
    exact h.r
  · unfold K47.turn at hr
    obtain ⟨j, hj, rfl⟩ := List.mem_map.mp hr
    obtain ⟨r0, h0, rfl⟩ := List.mem_map.mp hx
    cases e : r0[j]? with
    | none => rw [Option.getD_none]; omega
    | some y =>
      have := h.e r0 h0 y (List.mem_of_getElem? e)
      rw [Option.getD_some]
      omega
theorem Fits.rev {T : Tab} {R C : Nat} (h : Fits T R C) : Fits T.reverse R C :=
  ⟨by rw [List.length_reverse]; exact h.r, fun row hr => h.c row (List.mem_reverse.mp hr), h.r1, h.r2, h.c1, h.c2, fun row hr => h.e row (List.mem_reverse.mp hr)⟩
theorem bound_small {T : Tab} {R C : Nat} (h : Drawn T R C) (hR : R ≤ 4) (hC : C ≤ 5) : 0 ≤ bound T ∧ bound T ≤ 80 := by
  have k1 : ∀ row ∈ T, 0 ≤ (row.map absI).sum ∧ (row.map absI).sum ≤ 4 * (row.length : Int) := fun row hr => by
    have he := h.e row hr
    generalize row = r at he
    induction r with
    | nil => simp
    | cons x r ih =>
      have h1 := he x List.mem_cons_self
      have h2 := ih fun y hy => he y (List.mem_cons_of_mem _ hy)
      rw [List.map_cons, List.sum_cons, List.length_cons]
      have : 0 ≤ absI x ∧ absI x ≤ 4 := by unfold absI; split <;> omega
      omega
  have k2 : 0 ≤ bound T ∧ bound T ≤ 20 * (T.length : Int) := by
    unfold bound
    have hc := h.c
    generalize T = U at k1 hc
    induction U with
    | nil => simp
    | cons row U ih =>
      have h1 := k1 row List.mem_cons_self
      have h3 := hc row List.mem_cons_self
      have h2 := ih (fun y hy => k1 y (List.mem_cons_of_mem _ hy)) fun y hy => hc y (List.mem_cons_of_mem _ hy)
      rw [List.map_cons, List.sum_cons, List.length_cons]
      omega
  have := h.r
  omega
end PD.K47
set_option Elab.async false
set_option linter.all false
set_option maxRecDepth 100000
set_option maxHeartbeats 4000000
namespace PD.K47
set_option autoImplicit false
open PySem PySem.Spec L2 PD
open PyProof.Rows hiding St
local macro_rules | `(tactic| walk_at "pd") => `(tactic| simp only [dC, dVar, dBin, dCmp_ap, dCmpT, wB, dChainT, dOfT, dTruT, dAndT, dOrT, dNotT, dAndV, dOrV, dNotV, dIf, dNeg, dNil, dCons, gives, give_vr, give_sh, give_fr, get_sh, get_fr, get_vr, En.at, En.with, Sl.d, dTup, dLst, dCut, dNo, dPart, bCut, dNx, dSeq, dIfS, dRet, dRetN, dBk, dCt, dDrop, dStIx, set_l0, set_l1, gN, gCons, gTup, gNil, dSet, dPar, dUnp, settle, puts, En.put, En.set, dItems, dRg1, dRg2, itemsOf, dB1, semOf, slots, endOf, dCall, gets, light_f, light_t, wOf_f, wOf_t, is_nn, is_bn, is_in, is_sn, is_ln, is_tn, is_bb, isn_nn, isn_bn, isn_in, isn_sn, isn_ln, isn_tn, isn_bb, tyD_list, tyD_dict, eq_self, imm_none, imm_bool, imm_int, imm_str, imm_tup, imm_list, imms_nil, imms_cons, inner_list,
  isi_int, isi_bool, isi_tuple, isi_list, isi_str, isi_dict, isInt, isBool, isTup, isLst, isStr, isDic, En.wipe, wipeS, restoreS, dMut, En.mine, En.own, dEnum, dZip, tru_none, tru_bool, tru_int, tru_list, tru_tup, len_list, len_tup, len_dict, PD.add_int, PD.sub_int, int_int, abs_int, le_int, lt_int, gt_int, ge_int, PD.eq_int, PD.ne_int, PD.ne_bool, PD.eq_bool, PD.eq_nil, ix_tup0, ix_tup1, ix_tup2, ix_tup3, ix_list0, ix_list1, tup_list, tup_tup, lst_list, lst_tup, dCallC, notVr, semC,
  Option.bind_some, Option.map_some, Option.bind_none, Option.map_none, List.getElem?_cons_zero, List.getElem?_cons_succ, List.length_cons, List.length_nil, List.map_cons, List.map_nil, List.replicate, List.append_nil, List.nil_append, List.cons_append, List.set_cons_zero, List.set_cons_succ, List.all_cons, List.all_nil, Nat.sub_self, Nat.reduceAdd, Nat.reduceSub, Nat.reduceLT, Nat.reduceEqDiff, List.mem_cons, List.not_mem_nil,  Nat.reduceLeDiff, if_true, if_false, reduceIte, ite_self, Bool.false_eq_true, Bool.not_true, Bool.not_false, decide_true, decide_false, Option.getD_some, Option.getD_none, Bool.true_and, Bool.and_true, Bool.false_and, Bool.and_false, false_and, and_false, true_and, and_true, not_true_eq_false, not_false_eq_true, or_self, or_false, false_or, List.isEmpty_cons, List.isEmpty_nil, Nat.zero_ne_one])
local macro_rules | `(tactic| walk_at "pd*") => `(tactic| simp only [dC, dVar, dBin, dCmp_ap, dCmpT, wB, dChainT, dOfT, dTruT, dAndT, dOrT, dNotT, dAndV, dOrV, dNotV, dIf, dNeg, dNil, dCons, gives, give_vr, give_sh, give_fr, get_sh, get_fr, get_vr, En.at, En.with, Sl.d, dTup, dLst, dCut, dNo, dPart, bCut, dNx, dSeq, dIfS, dRet, dRetN, dBk, dCt, dDrop, dStIx, set_l0, set_l1, gN, gCons, gTup, gNil, dSet, dPar, dUnp, settle, puts, En.put, En.set, dItems, dRg1, dRg2, itemsOf, dB1, semOf, slots, endOf, dCall, gets, light_f, light_t, wOf_f, wOf_t, is_nn, is_bn, is_in, is_sn, is_ln, is_tn, is_bb, isn_nn, isn_bn, isn_in, isn_sn, isn_ln, isn_tn, isn_bb, tyD_list, tyD_dict, eq_self, imm_none, imm_bool, imm_int, imm_str, imm_tup, imm_list, imms_nil, imms_cons, inner_list,
  isi_int, isi_bool, isi_tuple, isi_list, isi_str, isi_dict, isInt, isBool, isTup, isLst, isStr, isDic, En.wipe, wipeS, restoreS, dMut, En.mine, En.own, dEnum, dZip, tru_none, tru_bool, tru_int, tru_list, tru_tup, len_list, len_tup, len_dict, PD.add_int, PD.sub_int, int_int, abs_int, le_int, lt_int, gt_int, ge_int, PD.eq_int, PD.ne_int, PD.ne_bool, PD.eq_bool, PD.eq_nil, ix_tup0, ix_tup1, ix_tup2, ix_tup3, ix_list0, ix_list1, tup_list, tup_tup, lst_list, lst_tup, dCallC, notVr, semC,
  Option.bind_some, Option.map_some, Option.bind_none, Option.map_none, List.getElem?_cons_zero, List.getElem?_cons_succ, List.length_cons, List.length_nil, List.map_cons, List.map_nil, List.replicate, List.append_nil, List.nil_append, List.cons_append, List.set_cons_zero, List.set_cons_succ, List.all_cons, List.all_nil, Nat.sub_self, Nat.reduceAdd, Nat.reduceSub, Nat.reduceLT, Nat.reduceEqDiff, List.mem_cons, List.not_mem_nil,  Nat.reduceLeDiff, if_true, if_false, reduceIte, ite_self, Bool.false_eq_true, Bool.not_true, Bool.not_false, decide_true, decide_false, Option.getD_some, Option.getD_none, Bool.true_and, Bool.and_true, Bool.false_and, Bool.and_false, false_and, and_false, true_and, and_true, not_true_eq_false, not_false_eq_true, or_self, or_false, false_or, List.isEmpty_cons, List.isEmpty_nil, Nat.zero_ne_one, *])
section
variable {T : Tab} {R C : Nat}
abbrev n13 : List (Option Sl) := [none, none, none, none, none, none, none, none, none, none, none, none, none]
abbrev e0 (T : Tab) (R C : Nat) : En := ⟨false, [some (.sh (tabD T)), some (.sh (.int (R : Int))), some (.sh (.int (C : Int))), none, none, none, none, none, none, none, none, none, none, none, none, none]⟩
theorem bound_lc (h : Fits T R C) : dLc (dItems (dVar 0)) (gN 6) dYes (dB1 bSum (dLc (dItems (dVar 6)) (gN 5) dYes (dB1 bAbs (dVar 5)) [5])) [6] (e0 T R C) = some (.fr (.list (T.map fun row => .int (row.map absI).sum)), e0 T R C) := by
  have hl := h.r
  have hr2 := h.r2
  refine dLc_sh (emb := rowD) _ T rfl rfl (by omega) fun row hr => ?_
  have hc := h.c row hr
  have hc2 := h.c2
  have inn : dLc (dItems (dVar 6)) (gN 5) dYes (dB1 bAbs (dVar 5)) [5] ((e0 T R C).with 6 (rowD row)) = some (.fr (.list (row.map fun x => .int (absI x))), (e0 T R C).with 6 (rowD row)) := by
    refine dLc_sh (emb := PyData.int) _ row rfl rfl (by omega) fun x hx => ?_
    walk_at "pd"
    rfl
  have e1 : bSum (.list (row.map fun x => .int (absI x))) = some (.sh (.int (row.map absI).sum)) := by
    have := bSum_ints (row.map absI)
    rw [List.map_map] at this
    exact this
  exact dB1_at inn e1
theorem bound_sum (T : Tab) : bSum (.list (T.map fun row => PyData.int (row.map absI).sum)) = some (.sh (.int (bound T))) := by
  have := bSum_ints (T.map fun row => (row.map absI).sum)
  rw [List.map_map] at this
  exact this
/-! ### the dict of counts -/
abbrev e7 (T : Tab) (R C : Nat) (ev : D) (s7 s8 : Option Sl) : En := ⟨false, [some (.sh (tabD T)), some (.sh (.int (R : Int))), some (.sh (.int (C : Int))), some (.sh (.int (bound T))), some (.own ev), none, none, s7, s8, none, none, none, none, none, none, none]⟩
def nB (T : Tab) : Nat := (2 * bound T + 1).toNat
def numAt (T : Tab) (i : Nat) : Int := -(bound T) + (i : Int)
def pairsOf (T : Tab) (V : List Rect) : List (D × D) := (List.range (nB T)).map fun i => (.int (numAt T i), .int (cnt T V (numAt T i) : Int))
theorem pairs_lc (h : Drawn T R C) (hR : 1 ≤ R ∧ R ≤ 4) (hC : 1 ≤ C ∧ C ≤ 5) (ev : D) : dLc (dRg2 (dNeg (dVar 3)) (dBin bAdd (dVar 3) (dC (.int 1)))) (gN 5) dYes (dTup (dCons (dVar 5) (dCons (dCall m_count_with_sum (dCons (dVar 0) (dCons (dVar 5) dNil))) dNil))) [5] (e7 T R C ev none none) =
    some (.fr (.list ((List.range (nB T)).map fun i => .tuple [.int (numAt T i), .int (cnt T (rects R C) (numAt T i) : Int)])), e7 T R C ev none none) := by
  have hb := bound_small h hR.2 hC.2
  have i0 := imm_tab T
  refine dLc_sh (emb := fun i => PyData.int (numAt T i)) _ (List.range (nB T)) (rg2_at (a := -(bound T)) (b := bound T + 1) (ρ1 := e7 T R C ev none none) (ρ2 := e7 T R C ev none none) rfl rfl ⟨by omega, by omega⟩ ⟨by omega, by omega⟩) (by unfold rgD nB numAt; rw [show bound T + 1 - -bound T = 2 * bound T + 1 by omega]) (by rw [List.length_range]; unfold nB; omega) fun i hi => ?_
  have hi := List.mem_range.mp hi
  unfold nB at hi
  have c1 := d_count_with_sum (h.fits hR hC) (n := numAt T i) ⟨by unfold numAt; omega, by unfold numAt; omega⟩
  change m_count_with_sum [tabD T, .int (numAt T i)] = some (false, .int (cnt T (rects R C) (numAt T i) : Int)) at c1
  clear hb hi h hR hC
  walk_at "pd*"
end
end PD.K47
set_option Elab.async false
set_option linter.all false
set_option maxRecDepth 100000
set_option maxHeartbeats 4000000
namespace PD.K47
set_option autoImplicit false
open PySem PySem.Spec L2 PD
open PyProof.Rows hiding St
local macro_rules | `(tactic| walk_at "pd") => `(tactic| simp only [dC, dVar, dBin, dCmp_ap, dCmpT, wB, dChainT, dOfT, dTruT, dAndT, dOrT, dNotT, dAndV, dOrV, dNotV, dIf, dNeg, dNil, dCons, gives, give_vr, give_sh, give_fr, get_sh, get_fr, get_vr, En.at, En.with, Sl.d, dTup, dLst, dCut, dNo, dPart, bCut, dNx, dSeq, dIfS, dRet, dRetN, dBk, dCt, dDrop, dStIx, set_l0, set_l1, gN, gCons, gTup, gNil, dSet, dPar, dUnp, settle, puts, En.put, En.set, dItems, dRg1, dRg2, itemsOf, dB1, semOf, slots, endOf, dCall, gets, light_f, light_t, wOf_f, wOf_t, is_nn, is_bn, is_in, is_sn, is_ln, is_tn, is_bb, isn_nn, isn_bn, isn_in, isn_sn, isn_ln, isn_tn, isn_bb, tyD_list, tyD_dict, eq_self, imm_none, imm_bool, imm_int, imm_str, imm_tup, imm_list, imms_nil, imms_cons, inner_list,
  isi_int, isi_bool, isi_tuple, isi_list, isi_str, isi_dict, isInt, isBool, isTup, isLst, isStr, isDic, En.wipe, wipeS, restoreS, dMut, En.mine, En.own, dEnum, dZip, tru_none, tru_bool, tru_int, tru_list, tru_tup, len_list, len_tup, len_dict, PD.add_int, PD.sub_int, int_int, abs_int, le_int, lt_int, gt_int, ge_int, PD.eq_int, PD.ne_int, PD.ne_bool, PD.eq_bool, PD.eq_nil, ix_tup0, ix_tup1, ix_tup2, ix_tup3, ix_list0, ix_list1, tup_list, tup_tup, lst_list, lst_tup, dCallC, notVr, semC,
  Option.bind_some, Option.map_some, Option.bind_none, Option.map_none, List.getElem?_cons_zero, List.getElem?_cons_succ, List.length_cons, List.length_nil, List.map_cons, List.map_nil, List.replicate, List.append_nil, List.nil_append, List.cons_append, List.set_cons_zero, List.set_cons_succ, List.all_cons, List.all_nil, Nat.sub_self, Nat.reduceAdd, Nat.reduceSub, Nat.reduceLT, Nat.reduceEqDiff, List.mem_cons, List.not_mem_nil,  Nat.reduceLeDiff, if_true, if_false, reduceIte, ite_self, Bool.false_eq_true, Bool.not_true, Bool.not_false, decide_true, decide_false, Option.getD_some, Option.getD_none, Bool.true_and, Bool.and_true, Bool.false_and, Bool.and_false, false_and, and_false, true_and, and_true, not_true_eq_false, not_false_eq_true, or_self, or_false, false_or, List.isEmpty_cons, List.isEmpty_nil, Nat.zero_ne_one])
local macro_rules | `(tactic| walk_at "pd*") => `(tactic| simp only [dC, dVar, dBin, dCmp_ap, dCmpT, wB, dChainT, dOfT, dTruT, dAndT, dOrT, dNotT, dAndV, dOrV, dNotV, dIf, dNeg, dNil, dCons, gives, give_vr, give_sh, give_fr, get_sh, get_fr, get_vr, En.at, En.with, Sl.d, dTup, dLst, dCut, dNo, dPart, bCut, dNx, dSeq, dIfS, dRet, dRetN, dBk, dCt, dDrop, dStIx, set_l0, set_l1, gN, gCons, gTup, gNil, dSet, dPar, dUnp, settle, puts, En.put, En.set, dItems, dRg1, dRg2, itemsOf, dB1, semOf, slots, endOf, dCall, gets, light_f, light_t, wOf_f, wOf_t, is_nn, is_bn, is_in, is_sn, is_ln, is_tn, is_bb, isn_nn, isn_bn, isn_in, isn_sn, isn_ln, isn_tn, isn_bb, tyD_list, tyD_dict, eq_self, imm_none, imm_bool, imm_int, imm_str, imm_tup, imm_list, imms_nil, imms_cons, inner_list,
  isi_int, isi_bool, isi_tuple, isi_list, isi_str, isi_dict, isInt, isBool, isTup, isLst, isStr, isDic, En.wipe, wipeS, restoreS, dMut, En.mine, En.own, dEnum, dZip, tru_none, tru_bool, tru_int, tru_list, tru_tup, len_list, len_tup, len_dict, PD.add_int, PD.sub_int, int_int, abs_int, le_int, lt_int, gt_int, ge_int, PD.eq_int, PD.ne_int, PD.ne_bool, PD.eq_bool, PD.eq_nil, ix_tup0, ix_tup1, ix_tup2, ix_tup3, ix_list0, ix_list1, tup_list, tup_tup, lst_list, lst_tup, dCallC, notVr, semC,
  Option.bind_some, Option.map_some, Option.bind_none, Option.map_none, List.getElem?_cons_zero, List.getElem?_cons_succ, List.length_cons, List.length_nil, List.map_cons, List.map_nil, List.replicate, List.append_nil, List.nil_append, List.cons_append, List.set_cons_zero, List.set_cons_succ, List.all_cons, List.all_nil, Nat.sub_self, Nat.reduceAdd, Nat.reduceSub, Nat.reduceLT, Nat.reduceEqDiff, List.mem_cons, List.not_mem_nil,  Nat.reduceLeDiff, if_true, if_false, reduceIte, ite_self, Bool.false_eq_true, Bool.not_true, Bool.not_false, decide_true, decide_false, Option.getD_some, Option.getD_none, Bool.true_and, Bool.and_true, Bool.false_and, Bool.and_false, false_and, and_false, true_and, and_true, not_true_eq_false, not_false_eq_true, or_self, or_false, false_or, List.isEmpty_cons, List.isEmpty_nil, Nat.zero_ne_one, *])
theorem dPut_new {kvs : List (D × D)} {k : Key} {d : D} (h : ∀ p ∈ kvs, kOf p.1 ≠ some k) : dPut kvs k d = kvs ++ [(kD k, d)] := by
  unfold dPut
  have : kvs.any (fun p => decide (kOf p.1 = some k)) = false := List.any_eq_false.mpr fun p hp => by simpa using h p hp
  rw [this]
  rfl
theorem dMerge_new : ∀ (ps : List (Key × D)) (acc : List (D × D)), (ps.map (·.1)).Nodup → (∀ p ∈ acc, ∀ q ∈ ps, kOf p.1 ≠ some q.1) → dMerge acc ps = acc ++ ps.map fun p => (kD p.1, p.2)
  | [], acc, _, _ => by rw [dMerge, List.map_nil, List.append_nil]
  | (k, d) :: ps, acc, nd, h => by
    rw [dMerge, dPut_new fun p hp => h p hp (k, d) List.mem_cons_self]
    have nd' : k ∉ ps.map (·.1) ∧ (ps.map (·.1)).Nodup := by simpa using nd
    rw [dMerge_new ps _ nd'.2 fun p hp q hq => ?_]
    · rw [List.map_cons, List.append_assoc]
      rfl
    · rcases List.mem_append.mp hp with hp | hp
      · exact h p hp q (List.mem_cons_of_mem _ hq)
      · rw [List.mem_singleton.mp hp]
        simp only [kOf_kD]
        intro z
        have e : k = q.1 := Option.some.inj z
        exact nd'.1 (by rw [e]; exact List.mem_map_of_mem hq)
theorem pairs?_ints (a : Nat → Int) (d : Nat → D) : ∀ l : List Nat, pairs? (l.map fun i => .tuple [.int (a i), d i]) = some (l.map fun i => (.inl (a i), d i))
  | [] => rfl
  | i :: l => by
    rw [List.map_cons, pairs?, pairs?_ints a d l]
    rfl
theorem bDict_list (xs : List D) : bDict (.list xs) = (pairs? xs).bind fun ps => if ps.length ≤ 16777216 then some (.fr (.dict (dMerge [] ps))) else none := rfl
section
variable {T : Tab} {R C : Nat}
theorem nodup_map_range {α : Type} {f : Nat → α} (hf : ∀ i j, f i = f j → i = j) (n : Nat) : ((List.range n).map f).Nodup := by
  have h := List.nodup_range (n := n)
  unfold List.Nodup at h ⊢
  rw [List.pairwise_map]
  exact h.imp fun hne z => hne (hf _ _ z)
theorem dict_of (V : List Rect) (hb : nB T ≤ 16777216) : bDict (.list ((List.range (nB T)).map fun i => .tuple [.int (numAt T i), .int (cnt T V (numAt T i) : Int)])) = some (.fr (.dict (pairsOf T V))) := by
  rw [bDict_list]
  rw [pairs?_ints (numAt T) (fun i => .int (cnt T V (numAt T i) : Int)), Option.bind_some, if_pos (by rw [List.length_map, List.length_range]; exact hb), dMerge_new _ _ ?_ (by simp)]
  · rw [List.nil_append, List.map_map]
    rfl
  · rw [List.map_map]
    exact nodup_map_range (fun i j h => by
      have : numAt T i = numAt T j := Sum.inl.inj h
      unfold numAt at this
      omega) _
/-- what the dict says of a number -/
theorem look_pairs (V : List Rect) (n : Int) : dLook (pairsOf T V) (.inl n) = if -(bound T) ≤ n ∧ n < -(bound T) + (nB T : Int) then some (.int (cnt T V n : Int)) else none := by
  unfold pairsOf
  have key : ∀ k : Nat, dLook ((List.range' k (nB T - k)).map fun i => (PyData.int (numAt T i), PyData.int (cnt T V (numAt T i) : Int))) (.inl n) = if -(bound T) + (k : Int) ≤ n ∧ n < -(bound T) + (nB T : Int) ∧ k ≤ nB T then some (.int (cnt T V n : Int)) else none := by
    intro k
    generalize hm : nB T - k = m
    induction m generalizing k with
    | zero =>
      rw [List.range'_zero, List.map_nil, dLook, if_neg (by omega)]
    | succ m ih =>
      rw [List.range'_succ, List.map_cons, dLook]
      by_cases e : numAt T k = n
      · rw [if_pos (by rw [← e]; rfl), e, if_pos (by unfold numAt at e; omega)]
      · rw [if_neg (show ¬ kOf (PyData.int (numAt T k)) = some (.inl n) from fun z => e (Sum.inl.inj (Option.some.inj z))), ih (k + 1) (by omega)]
        unfold numAt at e
        by_cases c : -(bound T) + (k : Int) ≤ n ∧ n < -(bound T) + (nB T : Int) ∧ k ≤ nB T
        · rw [if_pos c, if_pos (by omega)]
        · rw [if_neg c, if_neg (by omega)]
  have := key 0
  rw [Nat.sub_zero] at this
  rw [List.range_eq_range']
  rw [this]
  simp
end
end PD.K47
set_option Elab.async false
set_option linter.all false
set_option maxRecDepth 100000
set_option maxHeartbeats 4000000
namespace PD.K47
set_option autoImplicit false
open PySem PySem.Spec L2 PD
open PyProof.Rows hiding St
local macro_rules | `(tactic| walk_at "pd") => `(tactic| simp only [dC, dVar, dBin, dCmp_ap, dCmpT, wB, dChainT, dOfT, dTruT, dAndT, dOrT, dNotT, dAndV, dOrV, dNotV, dIf, dNeg, dNil, dCons, gives, give_vr, give_sh, give_fr, get_sh, get_fr, get_vr, En.at, En.with, Sl.d, dTup, dLst, dCut, dNo, dPart, bCut, dNx, dSeq, dIfS, dRet, dRetN, dBk, dCt, dDrop, dStIx, set_l0, set_l1, gN, gCons, gTup, gNil, dSet, dPar, dUnp, settle, puts, En.put, En.set, dItems, dRg1, dRg2, itemsOf, dB1, semOf, slots, endOf, dCall, gets, light_f, light_t, wOf_f, wOf_t, is_nn, is_bn, is_in, is_sn, is_ln, is_tn, is_bb, isn_nn, isn_bn, isn_in, isn_sn, isn_ln, isn_tn, isn_bb, tyD_list, tyD_dict, eq_self, imm_none, imm_bool, imm_int, imm_str, imm_tup, imm_list, imms_nil, imms_cons, inner_list,
  isi_int, isi_bool, isi_tuple, isi_list, isi_str, isi_dict, isInt, isBool, isTup, isLst, isStr, isDic, En.wipe, wipeS, restoreS, dMut, En.mine, En.own, dEnum, dZip, tru_none, tru_bool, tru_int, tru_list, tru_tup, len_list, len_tup, len_dict, PD.add_int, PD.sub_int, int_int, abs_int, le_int, lt_int, gt_int, ge_int, PD.eq_int, PD.ne_int, PD.ne_bool, PD.eq_bool, PD.eq_nil, ix_tup0, ix_tup1, ix_tup2, ix_tup3, ix_list0, ix_list1, tup_list, tup_tup, lst_list, lst_tup, dCallC, notVr, semC,
  Option.bind_some, Option.map_some, Option.bind_none, Option.map_none, List.getElem?_cons_zero, List.getElem?_cons_succ, List.length_cons, List.length_nil, List.map_cons, List.map_nil, List.replicate, List.append_nil, List.nil_append, List.cons_append, List.set_cons_zero, List.set_cons_succ, List.all_cons, List.all_nil, Nat.sub_self, Nat.reduceAdd, Nat.reduceSub, Nat.reduceLT, Nat.reduceEqDiff, List.mem_cons, List.not_mem_nil,  Nat.reduceLeDiff, if_true, if_false, reduceIte, ite_self, Bool.false_eq_true, Bool.not_true, Bool.not_false, decide_true, decide_false, Option.getD_some, Option.getD_none, Bool.true_and, Bool.and_true, Bool.false_and, Bool.and_false, false_and, and_false, true_and, and_true, not_true_eq_false, not_false_eq_true, or_self, or_false, false_or, List.isEmpty_cons, List.isEmpty_nil, Nat.zero_ne_one])
local macro_rules | `(tactic| walk_at "pd*") => `(tactic| simp only [dC, dVar, dBin, dCmp_ap, dCmpT, wB, dChainT, dOfT, dTruT, dAndT, dOrT, dNotT, dAndV, dOrV, dNotV, dIf, dNeg, dNil, dCons, gives, give_vr, give_sh, give_fr, get_sh, get_fr, get_vr, En.at, En.with, Sl.d, dTup, dLst, dCut, dNo, dPart, bCut, dNx, dSeq, dIfS, dRet, dRetN, dBk, dCt, dDrop, dStIx, set_l0, set_l1, gN, gCons, gTup, gNil, dSet, dPar, dUnp, settle, puts, En.put, En.set, dItems, dRg1, dRg2, itemsOf, dB1, semOf, slots, endOf, dCall, gets, light_f, light_t, wOf_f, wOf_t, is_nn, is_bn, is_in, is_sn, is_ln, is_tn, is_bb, isn_nn, isn_bn, isn_in, isn_sn, isn_ln, isn_tn, isn_bb, tyD_list, tyD_dict, eq_self, imm_none, imm_bool, imm_int, imm_str, imm_tup, imm_list, imms_nil, imms_cons, inner_list,
  isi_int, isi_bool, isi_tuple, isi_list, isi_str, isi_dict, isInt, isBool, isTup, isLst, isStr, isDic, En.wipe, wipeS, restoreS, dMut, En.mine, En.own, dEnum, dZip, tru_none, tru_bool, tru_int, tru_list, tru_tup, len_list, len_tup, len_dict, PD.add_int, PD.sub_int, int_int, abs_int, le_int, lt_int, gt_int, ge_int, PD.eq_int, PD.ne_int, PD.ne_bool, PD.eq_bool, PD.eq_nil, ix_tup0, ix_tup1, ix_tup2, ix_tup3, ix_list0, ix_list1, tup_list, tup_tup, lst_list, lst_tup, dCallC, notVr, semC,
  Option.bind_some, Option.map_some, Option.bind_none, Option.map_none, List.getElem?_cons_zero, List.getElem?_cons_succ, List.length_cons, List.length_nil, List.map_cons, List.map_nil, List.replicate, List.append_nil, List.nil_append, List.cons_append, List.set_cons_zero, List.set_cons_succ, List.all_cons, List.all_nil, Nat.sub_self, Nat.reduceAdd, Nat.reduceSub, Nat.reduceLT, Nat.reduceEqDiff, List.mem_cons, List.not_mem_nil,  Nat.reduceLeDiff, if_true, if_false, reduceIte, ite_self, Bool.false_eq_true, Bool.not_true, Bool.not_false, decide_true, decide_false, Option.getD_some, Option.getD_none, Bool.true_and, Bool.and_true, Bool.false_and, Bool.and_false, false_and, and_false, true_and, and_true, not_true_eq_false, not_false_eq_true, or_self, or_false, false_or, List.isEmpty_cons, List.isEmpty_nil, Nat.zero_ne_one, *])
section
variable {T : Tab} {R C : Nat}
abbrev eS (T : Tab) (R C : Nat) (s4 s7 s8 s9 s10 s11 s13 s14 : Option Sl) : En := ⟨false, [some (.sh (tabD T)), some (.sh (.int (R : Int))), some (.sh (.int (C : Int))), some (.sh (.int (bound T))), s4, none, none, s7, s8, s9, s10, s11, none, s13, s14, none]⟩
abbrev evD (R C : Nat) : D := .list ((rects R C).map rectD)
/-- the numbers that are some rectangle's -/
def someOf (T : Tab) (V : List Rect) : List Int := ((List.range (nB T)).map (numAt T)).filter fun n => decide (0 < cnt T V n)
theorem st1 (h : Fits T R C) : dPar [1, 2] (dCons (dB1 bLen (dVar 0)) (dCons (dB1 bLen (dBin bIx (dVar 0) (dC (.int 0)))) dNil)) ⟨false, slots [tabD T] 16⟩ = some (.nx (e0 T R C)) := by
  obtain ⟨r0, rs, ee, l0⟩ := h.row0
  have hl := h.r
  have g0 : bIx (tabD T) (.int 0) = some (.sh (rowD r0)) := by rw [ee]; exact ix_tup0 _ _
  have g1 : bLen (rowD r0) = some (.sh (.int (C : Int))) := by unfold rowD; rw [len_tup, List.length_map, l0]
  have g2 : bLen (tabD T) = some (.sh (.int (R : Int))) := by unfold tabD; rw [len_tup, List.length_map, hl]
  clear h hl ee l0
  walk_at "pd*"
theorem st2 (h : Fits T R C) : dPar [3, 4] (dCons (dB1 bSum (dLc (dItems (dVar 0)) (gN 6) dYes (dB1 bSum (dLc (dItems (dVar 6)) (gN 5) dYes (dB1 bAbs (dVar 5)) [5])) [6])) (dCons (dCall m__law_rectangles (dCons (dVar 1) (dCons (dVar 2) dNil))) dNil)) (e0 T R C) = some (.nx (eS T R C (some (.own (evD R C))) none none none none none none none)) := by
  have a1 := dB1_at (bound_lc h) (bound_sum T)
  have a2 := d_law_rectangles h.r2 h.c2
  unfold dPar
  rw [show dCons (dB1 bSum (dLc (dItems (dVar 0)) (gN 6) dYes (dB1 bSum (dLc (dItems (dVar 6)) (gN 5) dYes (dB1 bAbs (dVar 5)) [5])) [6])) (dCons (dCall m__law_rectangles (dCons (dVar 1) (dCons (dVar 2) dNil))) dNil) (e0 T R C) = (dB1 bSum (dLc (dItems (dVar 0)) (gN 6) dYes (dB1 bSum (dLc (dItems (dVar 6)) (gN 5) dYes (dB1 bAbs (dVar 5)) [5])) [6]) (e0 T R C)).bind (fun x => ((dCons (dCall m__law_rectangles (dCons (dVar 1) (dCons (dVar 2) dNil))) dNil) x.2).map fun y => (x.1 :: y.1, y.2)) from rfl, a1]
  clear h a1
  walk_at "pd*"
theorem st3 (h : Drawn T R C) (hR : 1 ≤ R ∧ R ≤ 4) (hC : 1 ≤ C ∧ C ≤ 5) : dSet 7 (dB1 bDict (dLc (dRg2 (dNeg (dVar 3)) (dBin bAdd (dVar 3) (dC (.int 1)))) (gN 5) dYes (dTup (dCons (dVar 5) (dCons (dCall m_count_with_sum (dCons (dVar 0) (dCons (dVar 5) dNil))) dNil))) [5])) (eS T R C (some (.own (evD R C))) none none none none none none none) =
    some (.nx (eS T R C (some (.own (evD R C))) (some (.own (.dict (pairsOf T (rects R C))))) none none none none none none)) := by
  have hb := bound_small h hR.2 hC.2
  have a1 := dB1_at (pairs_lc h hR hC (evD R C)) (dict_of (T := T) (rects R C) (by unfold nB; omega)) rfl
  rw [dSet_fr a1]
  rfl
theorem st4 (h : Drawn T R C) (hR : 1 ≤ R ∧ R ≤ 4) (hC : 1 ≤ C ∧ C ≤ 5) : dSet 8 (dLc (dDict 7 keysD) (gN 5) (dCmpT cGt (dBin bIx (dVar 7) (dVar 5)) (dC (.int 0))) (dVar 5) [5]) (eS T R C (some (.own (evD R C))) (some (.own (.dict (pairsOf T (rects R C))))) none none none none none none) =
    some (.nx (eS T R C (some (.own (evD R C))) (some (.sh (.dict (pairsOf T (rects R C))))) (some (.own (.list ((someOf T (rects R C)).map .int)))) none none none none none)) := by
  have hb := bound_small h hR.2 hC.2
  have f1 : dDict 7 keysD (eS T R C (some (.own (evD R C))) (some (.own (.dict (pairsOf T (rects R C))))) none none none none none none) = some ((pairsOf T (rects R C)).map (·.1), eS T R C (some (.own (evD R C))) (some (.sh (.dict (pairsOf T (rects R C))))) none none none none none none) := rfl
  have f2 : (pairsOf T (rects R C)).map (·.1) = ((List.range (nB T)).map (numAt T)).map PyData.int := by unfold pairsOf; rw [List.map_map, List.map_map]; rfl
  have a1 := dLc_one (emb := PyData.int) (fi := fun _ => some ((pairsOf T (rects R C)).map (·.1), eS T R C (some (.own (evD R C))) (some (.sh (.dict (pairsOf T (rects R C))))) none none none none none none)) (ft := dCmpT cGt (dBin bIx (dVar 7) (dVar 5)) (dC (.int 0))) (fe := dVar 5) (i := 5)
    (ρ := eS T R C (some (.own (evD R C))) (some (.sh (.dict (pairsOf T (rects R C))))) none none none none none none) (fun n => decide (0 < cnt T (rects R C) n)) PyData.int ((List.range (nB T)).map (numAt T)) rfl f2 (by rw [List.length_map, List.length_range]; unfold nB; omega) (fun n hn => ?_) (fun n hn _ => .inl rfl)
  · rw [dSet_fr ((dLc_from f1).trans a1)]
    rfl
  · obtain ⟨i, hi, rfl⟩ := List.mem_map.mp hn
    have hi := List.mem_range.mp hi
    have g1 : bIx (.dict (pairsOf T (rects R C))) (.int (numAt T i)) = some (.sh (.int (cnt T (rects R C) (numAt T i) : Int))) := by
      show (Option.bind (some (Sum.inl (numAt T i))) fun y => (dLook (pairsOf T (rects R C)) y).map W.sh) = _
      rw [Option.bind_some, look_pairs, if_pos (by unfold numAt; omega)]
      rfl
    have g2 : decide ((0 : Int) < (cnt T (rects R C) (numAt T i) : Int)) = decide (0 < cnt T (rects R C) (numAt T i)) := decide_eq_decide.mpr (by omega)
    clear hi hn hb h hR hC f1 f2
    walk_at "pd*"
end
end PD.K47
set_option Elab.async false
set_option linter.all false
set_option maxRecDepth 100000
set_option maxHeartbeats 4000000
namespace PD.K47
set_option autoImplicit false
open PySem PySem.Spec L2 PD
open PyProof.Rows hiding St
local macro_rules | `(tactic| walk_at "pd") => `(tactic| simp only [dC, dVar, dBin, dCmp_ap, dCmpT, wB, dChainT, dOfT, dTruT, dAndT, dOrT, dNotT, dAndV, dOrV, dNotV, dIf, dNeg, dNil, dCons, gives, give_vr, give_sh, give_fr, get_sh, get_fr, get_vr, En.at, En.with, Sl.d, dTup, dLst, dCut, dNo, dPart, bCut, dNx, dSeq, dIfS, dRet, dRetN, dBk, dCt, dDrop, dStIx, set_l0, set_l1, gN, gCons, gTup, gNil, dSet, dPar, dUnp, settle, puts, En.put, En.set, dItems, dRg1, dRg2, itemsOf, dB1, semOf, slots, endOf, dCall, gets, light_f, light_t, wOf_f, wOf_t, is_nn, is_bn, is_in, is_sn, is_ln, is_tn, is_bb, isn_nn, isn_bn, isn_in, isn_sn, isn_ln, isn_tn, isn_bb, tyD_list, tyD_dict, eq_self, imm_none, imm_bool, imm_int, imm_str, imm_tup, imm_list, imms_nil, imms_cons, inner_list,
  isi_int, isi_bool, isi_tuple, isi_list, isi_str, isi_dict, isInt, isBool, isTup, isLst, isStr, isDic, En.wipe, wipeS, restoreS, dMut, En.mine, En.own, dEnum, dZip, tru_none, tru_bool, tru_int, tru_list, tru_tup, len_list, len_tup, len_dict, PD.add_int, PD.sub_int, int_int, abs_int, le_int, lt_int, gt_int, ge_int, PD.eq_int, PD.ne_int, PD.ne_bool, PD.eq_bool, PD.eq_nil, ix_tup0, ix_tup1, ix_tup2, ix_tup3, ix_list0, ix_list1, tup_list, tup_tup, lst_list, lst_tup, dCallC, notVr, semC,
  Option.bind_some, Option.map_some, Option.bind_none, Option.map_none, List.getElem?_cons_zero, List.getElem?_cons_succ, List.length_cons, List.length_nil, List.map_cons, List.map_nil, List.replicate, List.append_nil, List.nil_append, List.cons_append, List.set_cons_zero, List.set_cons_succ, List.all_cons, List.all_nil, Nat.sub_self, Nat.reduceAdd, Nat.reduceSub, Nat.reduceLT, Nat.reduceEqDiff, List.mem_cons, List.not_mem_nil,  Nat.reduceLeDiff, if_true, if_false, reduceIte, ite_self, Bool.false_eq_true, Bool.not_true, Bool.not_false, decide_true, decide_false, Option.getD_some, Option.getD_none, Bool.true_and, Bool.and_true, Bool.false_and, Bool.and_false, false_and, and_false, true_and, and_true, not_true_eq_false, not_false_eq_true, or_self, or_false, false_or, List.isEmpty_cons, List.isEmpty_nil, Nat.zero_ne_one])
local macro_rules | `(tactic| walk_at "pd*") => `(tactic| simp only [dC, dVar, dBin, dCmp_ap, dCmpT, wB, dChainT, dOfT, dTruT, dAndT, dOrT, dNotT, dAndV, dOrV, dNotV, dIf, dNeg, dNil, dCons, gives, give_vr, give_sh, give_fr, get_sh, get_fr, get_vr, En.at, En.with, Sl.d, dTup, dLst, dCut, dNo, dPart, bCut, dNx, dSeq, dIfS, dRet, dRetN, dBk, dCt, dDrop, dStIx, set_l0, set_l1, gN, gCons, gTup, gNil, dSet, dPar, dUnp, settle, puts, En.put, En.set, dItems, dRg1, dRg2, itemsOf, dB1, semOf, slots, endOf, dCall, gets, light_f, light_t, wOf_f, wOf_t, is_nn, is_bn, is_in, is_sn, is_ln, is_tn, is_bb, isn_nn, isn_bn, isn_in, isn_sn, isn_ln, isn_tn, isn_bb, tyD_list, tyD_dict, eq_self, imm_none, imm_bool, imm_int, imm_str, imm_tup, imm_list, imms_nil, imms_cons, inner_list,
  isi_int, isi_bool, isi_tuple, isi_list, isi_str, isi_dict, isInt, isBool, isTup, isLst, isStr, isDic, En.wipe, wipeS, restoreS, dMut, En.mine, En.own, dEnum, dZip, tru_none, tru_bool, tru_int, tru_list, tru_tup, len_list, len_tup, len_dict, PD.add_int, PD.sub_int, int_int, abs_int, le_int, lt_int, gt_int, ge_int, PD.eq_int, PD.ne_int, PD.ne_bool, PD.eq_bool, PD.eq_nil, ix_tup0, ix_tup1, ix_tup2, ix_tup3, ix_list0, ix_list1, tup_list, tup_tup, lst_list, lst_tup, dCallC, notVr, semC,
  Option.bind_some, Option.map_some, Option.bind_none, Option.map_none, List.getElem?_cons_zero, List.getElem?_cons_succ, List.length_cons, List.length_nil, List.map_cons, List.map_nil, List.replicate, List.append_nil, List.nil_append, List.cons_append, List.set_cons_zero, List.set_cons_succ, List.all_cons, List.all_nil, Nat.sub_self, Nat.reduceAdd, Nat.reduceSub, Nat.reduceLT, Nat.reduceEqDiff, List.mem_cons, List.not_mem_nil,  Nat.reduceLeDiff, if_true, if_false, reduceIte, ite_self, Bool.false_eq_true, Bool.not_true, Bool.not_false, decide_true, decide_false, Option.getD_some, Option.getD_none, Bool.true_and, Bool.and_true, Bool.false_and, Bool.and_false, false_and, and_false, true_and, and_true, not_true_eq_false, not_false_eq_true, or_self, or_false, false_or, List.isEmpty_cons, List.isEmpty_nil, Nat.zero_ne_one, *])
section
variable {T : Tab} {R C : Nat}
theorem rects_ne (hR : 1 ≤ R) (hC : 1 ≤ C) : rects R C ≠ [] := fun z => by
  have : ((0, 0, 0, 0) : Rect) ∈ rects R C := by
    unfold rects
    simp only [List.mem_flatMap, List.mem_map, List.mem_range]
    exact ⟨0, by omega, 0, by omega, 0, by omega, 0, by omega, rfl⟩
  rw [z] at this
  cases this
abbrev dcD (T : Tab) (R C : Nat) : D := .dict (pairsOf T (rects R C))
abbrev smD (T : Tab) (R C : Nat) : D := .list ((someOf T (rects R C)).map .int)
theorem st5 (h : Fits T R C) {p : Rect} (hp : (rects R C).foldl (beats T) none = some p) : dUnp (gTup 2 (gCons (gN 9) (gCons (gN 10) gNil))) (dCall m_greatest_sum (dCons (dVar 0) dNil)) (eS T R C (some (.own (evD R C))) (some (.sh (dcD T R C))) (some (.own (smD T R C))) none none none none none) =
    some (.nx (eS T R C (some (.own (evD R C))) (some (.sh (dcD T R C))) (some (.own (smD T R C))) (some (.sh (.int (rs T p)))) (some (.sh (rectD p))) none none none)) := by
  have c1 := d_greatest_sum h
  rw [hp] at c1
  have i1 := imm_rect p
  unfold bestD at c1
  clear h hp
  walk_at "pd*"
theorem st6 (h : Fits T R C) {p : Rect} (hf : ((rects R C).filter fun q => decide (rs T q = rs T p)).head? = some p) : dSet 11 (dBin bIx (dLc (dItems (dVar 4)) (gN 12) (dCmpT cEq (dCall m_sum_of (dCons (dVar 0) (dCons (dVar 12) dNil))) (dVar 9)) (dVar 12) [12]) (dC (.int 0))) (eS T R C (some (.own (evD R C))) (some (.sh (dcD T R C))) (some (.own (smD T R C))) (some (.sh (.int (rs T p)))) (some (.sh (rectD p))) none none none) =
    some (.nx (eS T R C (some (.sh (evD R C))) (some (.sh (dcD T R C))) (some (.own (smD T R C))) (some (.sh (.int (rs T p)))) (some (.sh (rectD p))) (some (.sh (rectD p))) none none)) := by
  have hlen := len_rects h.r2 h.c2
  have f1 : dItems (dVar 4) (eS T R C (some (.own (evD R C))) (some (.sh (dcD T R C))) (some (.own (smD T R C))) (some (.sh (.int (rs T p)))) (some (.sh (rectD p))) none none none) = some ((rects R C).map rectD, eS T R C (some (.sh (evD R C))) (some (.sh (dcD T R C))) (some (.own (smD T R C))) (some (.sh (.int (rs T p)))) (some (.sh (rectD p))) none none none) := rfl
  have a1 := dLc_one (emb := rectD) (fi := fun _ => some ((rects R C).map rectD, eS T R C (some (.sh (evD R C))) (some (.sh (dcD T R C))) (some (.own (smD T R C))) (some (.sh (.int (rs T p)))) (some (.sh (rectD p))) none none none)) (ft := dCmpT cEq (dCall m_sum_of (dCons (dVar 0) (dCons (dVar 12) dNil))) (dVar 9)) (fe := dVar 12) (i := 12)
    (ρ := eS T R C (some (.sh (evD R C))) (some (.sh (dcD T R C))) (some (.own (smD T R C))) (some (.sh (.int (rs T p)))) (some (.sh (rectD p))) none none none) (fun q => decide (rs T q = rs T p)) rectD (rects R C) rfl rfl (by omega) (fun q hq => ?_) (fun n hn _ => .inl rfl)
  · obtain ⟨rest, hr⟩ : ∃ rest, ((rects R C).filter fun q => decide (rs T q = rs T p)) = p :: rest := by
      cases e : (rects R C).filter fun q => decide (rs T q = rs T p) with
      | nil => rw [e] at hf; cases hf
      | cons x xs => rw [e] at hf; cases hf; exact ⟨xs, rfl⟩
    rw [hr] at a1
    have a2 := (dLc_from f1).trans a1
    have a3 : dBin bIx (dLc (dItems (dVar 4)) (gN 12) (dCmpT cEq (dCall m_sum_of (dCons (dVar 0) (dCons (dVar 12) dNil))) (dVar 9)) (dVar 12) [12]) (dC (.int 0)) (eS T R C (some (.own (evD R C))) (some (.sh (dcD T R C))) (some (.own (smD T R C))) (some (.sh (.int (rs T p)))) (some (.sh (rectD p))) none none none) = some (.sh (rectD p), eS T R C (some (.sh (evD R C))) (some (.sh (dcD T R C))) (some (.own (smD T R C))) (some (.sh (.int (rs T p)))) (some (.sh (rectD p))) none none none) := by
      unfold dBin
      rw [a2]
      simp only [Option.bind_some, dC, get_fr, get_sh, List.map_cons, ix_list0, Option.map_some]
    rw [dSet_sh a3]
    rfl
  · have c1 := d_sum_of h (rects_in hq)
    have i0 := imm_tab T
    have i1 := imm_rect q
    clear h hlen f1 hf hq
    walk_at "pd*"
end
end PD.K47
set_option Elab.async false
set_option linter.all false
set_option maxRecDepth 100000
set_option maxHeartbeats 4000000
namespace PD.K47
set_option autoImplicit false
open PySem PySem.Spec L2 PD
open PyProof.Rows hiding St
local macro_rules | `(tactic| walk_at "pd") => `(tactic| simp only [dC, dVar, dBin, dCmp_ap, dCmpT, wB, dChainT, dOfT, dTruT, dAndT, dOrT, dNotT, dAndV, dOrV, dNotV, dIf, dNeg, dNil, dCons, gives, give_vr, give_sh, give_fr, get_sh, get_fr, get_vr, En.at, En.with, Sl.d, dTup, dLst, dCut, dNo, dPart, bCut, dNx, dSeq, dIfS, dRet, dRetN, dBk, dCt, dDrop, dStIx, set_l0, set_l1, gN, gCons, gTup, gNil, dSet, dPar, dUnp, settle, puts, En.put, En.set, dItems, dRg1, dRg2, itemsOf, dB1, semOf, slots, endOf, dCall, gets, light_f, light_t, wOf_f, wOf_t, is_nn, is_bn, is_in, is_sn, is_ln, is_tn, is_bb, isn_nn, isn_bn, isn_in, isn_sn, isn_ln, isn_tn, isn_bb, tyD_list, tyD_dict, eq_self, imm_none, imm_bool, imm_int, imm_str, imm_tup, imm_list, imms_nil, imms_cons, inner_list,
  isi_int, isi_bool, isi_tuple, isi_list, isi_str, isi_dict, isInt, isBool, isTup, isLst, isStr, isDic, En.wipe, wipeS, restoreS, dMut, En.mine, En.own, dEnum, dZip, tru_none, tru_bool, tru_int, tru_list, tru_tup, len_list, len_tup, len_dict, PD.add_int, PD.sub_int, int_int, abs_int, le_int, lt_int, gt_int, ge_int, PD.eq_int, PD.ne_int, PD.ne_bool, PD.eq_bool, PD.eq_nil, ix_tup0, ix_tup1, ix_tup2, ix_tup3, ix_list0, ix_list1, tup_list, tup_tup, lst_list, lst_tup, dCallC, notVr, semC,
  Option.bind_some, Option.map_some, Option.bind_none, Option.map_none, List.getElem?_cons_zero, List.getElem?_cons_succ, List.length_cons, List.length_nil, List.map_cons, List.map_nil, List.replicate, List.append_nil, List.nil_append, List.cons_append, List.set_cons_zero, List.set_cons_succ, List.all_cons, List.all_nil, Nat.sub_self, Nat.reduceAdd, Nat.reduceSub, Nat.reduceLT, Nat.reduceEqDiff, List.mem_cons, List.not_mem_nil,  Nat.reduceLeDiff, if_true, if_false, reduceIte, ite_self, Bool.false_eq_true, Bool.not_true, Bool.not_false, decide_true, decide_false, Option.getD_some, Option.getD_none, Bool.true_and, Bool.and_true, Bool.false_and, Bool.and_false, false_and, and_false, true_and, and_true, not_true_eq_false, not_false_eq_true, or_self, or_false, false_or, List.isEmpty_cons, List.isEmpty_nil, Nat.zero_ne_one])
local macro_rules | `(tactic| walk_at "pd*") => `(tactic| simp only [dC, dVar, dBin, dCmp_ap, dCmpT, wB, dChainT, dOfT, dTruT, dAndT, dOrT, dNotT, dAndV, dOrV, dNotV, dIf, dNeg, dNil, dCons, gives, give_vr, give_sh, give_fr, get_sh, get_fr, get_vr, En.at, En.with, Sl.d, dTup, dLst, dCut, dNo, dPart, bCut, dNx, dSeq, dIfS, dRet, dRetN, dBk, dCt, dDrop, dStIx, set_l0, set_l1, gN, gCons, gTup, gNil, dSet, dPar, dUnp, settle, puts, En.put, En.set, dItems, dRg1, dRg2, itemsOf, dB1, semOf, slots, endOf, dCall, gets, light_f, light_t, wOf_f, wOf_t, is_nn, is_bn, is_in, is_sn, is_ln, is_tn, is_bb, isn_nn, isn_bn, isn_in, isn_sn, isn_ln, isn_tn, isn_bb, tyD_list, tyD_dict, eq_self, imm_none, imm_bool, imm_int, imm_str, imm_tup, imm_list, imms_nil, imms_cons, inner_list,
  isi_int, isi_bool, isi_tuple, isi_list, isi_str, isi_dict, isInt, isBool, isTup, isLst, isStr, isDic, En.wipe, wipeS, restoreS, dMut, En.mine, En.own, dEnum, dZip, tru_none, tru_bool, tru_int, tru_list, tru_tup, len_list, len_tup, len_dict, PD.add_int, PD.sub_int, int_int, abs_int, le_int, lt_int, gt_int, ge_int, PD.eq_int, PD.ne_int, PD.ne_bool, PD.eq_bool, PD.eq_nil, ix_tup0, ix_tup1, ix_tup2, ix_tup3, ix_list0, ix_list1, tup_list, tup_tup, lst_list, lst_tup, dCallC, notVr, semC,
  Option.bind_some, Option.map_some, Option.bind_none, Option.map_none, List.getElem?_cons_zero, List.getElem?_cons_succ, List.length_cons, List.length_nil, List.map_cons, List.map_nil, List.replicate, List.append_nil, List.nil_append, List.cons_append, List.set_cons_zero, List.set_cons_succ, List.all_cons, List.all_nil, Nat.sub_self, Nat.reduceAdd, Nat.reduceSub, Nat.reduceLT, Nat.reduceEqDiff, List.mem_cons, List.not_mem_nil,  Nat.reduceLeDiff, if_true, if_false, reduceIte, ite_self, Bool.false_eq_true, Bool.not_true, Bool.not_false, decide_true, decide_false, Option.getD_some, Option.getD_none, Bool.true_and, Bool.and_true, Bool.false_and, Bool.and_false, false_and, and_false, true_and, and_true, not_true_eq_false, not_false_eq_true, or_self, or_false, false_or, List.isEmpty_cons, List.isEmpty_nil, Nat.zero_ne_one, *])
theorem bestD_some (T : Tab) (p : Rect) : bestD T (some p) = .tuple [.int (rs T p), rectD p] := rfl
section
variable {T : Tab} {R C : Nat}
theorem sum_cast (f : Nat → Nat) : ∀ l : List Nat, (l.map fun i => (f i : Int)).sum = ((l.map f).sum : Int)
  | [] => rfl
  | x :: l => by rw [List.map_cons, List.sum_cons, sum_cast f l, List.map_cons, List.sum_cons]; omega
theorem rect_range (h : Fits T R C) {q : Rect} (hq : q ∈ rects R C) : -(bound T) ≤ rs T q ∧ rs T q ≤ bound T := rs_bound T h.r h.c (rects_in hq)
theorem sum_vals (h : Fits T R C) (hb : 0 ≤ bound T) : bSumVals (dcD T R C) = some (.sh (.int ((rects R C).length : Int))) := by
  have e : (pairsOf T (rects R C)).map (·.2) = ((List.range (nB T)).map fun i => (cnt T (rects R C) (numAt T i) : Int)).map PyData.int := by
    unfold pairsOf
    rw [List.map_map, List.map_map]
    rfl
  have s : ((List.range (nB T)).map fun i => (cnt T (rects R C) (numAt T i) : Int)).sum = ((rects R C).length : Int) := by
    rw [sum_cast]
    have := cnt_total T (-(bound T)) (nB T) (rects R C) fun q hq => by
      have := rect_range h hq
      unfold nB
      omega
    have e2 : ((List.range (nB T)).map fun i => cnt T (rects R C) (numAt T i)) = (List.range (nB T)).map fun (i : Nat) => cnt T (rects R C) (-(bound T) + (i : Int)) := rfl
    rw [e2, this]
  show (ints? ((pairsOf T (rects R C)).map (·.2))).map _ = _
  rw [e, ints?_map, Option.map_some, s]
theorem mem_some (h : Fits T R C) (hb : 0 ≤ bound T) {n : Int} : n ∈ someOf T (rects R C) ↔ ∃ q ∈ rects R C, rs T q = n := by
  unfold someOf
  rw [List.mem_filter]
  simp only [decide_eq_true_eq]
  rw [cnt_pos]
  constructor
  · exact fun z => z.2
  · rintro ⟨q, hq, e⟩
    have := rect_range h hq
    refine ⟨List.mem_map.mpr ⟨(n + bound T).toNat, List.mem_range.mpr (by unfold nB; omega), by unfold numAt; omega⟩, q, hq, e⟩
theorem max_some (h : Fits T R C) (hb : 0 ≤ bound T) {p : Rect} (hp : p ∈ rects R C) (hm : ∀ q ∈ rects R C, rs T q ≤ rs T p) : bMax (smD T R C) = some (.sh (.int (rs T p))) := by
  have i1 : rs T p ∈ someOf T (rects R C) := (mem_some h hb).mpr ⟨p, hp, rfl⟩
  have i2 : ∀ n ∈ someOf T (rects R C), n ≤ rs T p := fun n hn => by
    obtain ⟨q, hq, rfl⟩ := (mem_some h hb).mp hn
    exact hm q hq
  show (ints? ((someOf T (rects R C)).map .int)).bind _ = _
  rw [ints?_map, Option.bind_some]
  cases e : someOf T (rects R C) with
  | nil => rw [e] at i1; cases i1
  | cons n ns =>
    rw [e] at i1 i2
    obtain ⟨z1, z2, z3⟩ := imax_ge ns n
    have a := i2 _ z3
    have b : rs T p ≤ imax n ns := by
      rcases List.mem_cons.mp i1 with y | y
      · rw [y]; exact z1
      · exact z2 _ y
    show some (W.sh (PyData.int (imax n ns))) = _
    rw [show imax n ns = rs T p by omega]
theorem min_some (h : Fits T R C) (hb : 0 ≤ bound T) {p : Rect} (hp : p ∈ rects R C) (hm : ∀ q ∈ rects R C, rs T p ≤ rs T q) : bMin (smD T R C) = some (.sh (.int (rs T p))) := by
  have i1 : rs T p ∈ someOf T (rects R C) := (mem_some h hb).mpr ⟨p, hp, rfl⟩
  have i2 : ∀ n ∈ someOf T (rects R C), rs T p ≤ n := fun n hn => by
    obtain ⟨q, hq, rfl⟩ := (mem_some h hb).mp hn
    exact hm q hq
  show (ints? ((someOf T (rects R C)).map .int)).bind _ = _
  rw [ints?_map, Option.bind_some]
  cases e : someOf T (rects R C) with
  | nil => rw [e] at i1; cases i1
  | cons n ns =>
    rw [e] at i1 i2
    obtain ⟨z1, z2, z3⟩ := imin_le ns n
    have a := i2 _ z3
    have b : imin n ns ≤ rs T p := by
      rcases List.mem_cons.mp i1 with y | y
      · rw [y]; exact z1
      · exact z2 _ y
    show some (W.sh (PyData.int (imin n ns))) = _
    rw [show imin n ns = rs T p by omega]
abbrev tolD (T : Tab) (R C : Nat) (p p' : Rect) : D := .list [.int ((rects R C).length : Int), .int (rs T p), rectD p, .int (-(rs T p')), .int 0, .bool true]
theorem st7 (h : Drawn T R C) (hR : 1 ≤ R ∧ R ≤ 4) (hC : 1 ≤ C ∧ C ≤ 5) {p p' : Rect} (hp' : (rects R C).foldl (beats (times (-1) T)) none = some p') :
    dSet 13 (dLst (dCons (dB1 bSumVals (dVar 7)) (dCons (dVar 9) (dCons (dVar 10) (dCons (dBin bIx (dCall m_greatest_sum (dCons (dCall m__law_each (dCons (dVar 0) (dCons (dNeg (dC (.int 1))) dNil))) dNil)) (dC (.int 0))) (dCons (dCall m_count_with_sum (dCons (dVar 0) (dCons (dBin bAdd (dVar 3) (dC (.int 1))) dNil))) (dCons (dCall m_is_table (dCons (dVar 0) dNil)) dNil)))))))
      (eS T R C (some (.sh (evD R C))) (some (.sh (dcD T R C))) (some (.own (smD T R C))) (some (.sh (.int (rs T p)))) (some (.sh (rectD p))) (some (.sh (rectD p))) none none) =
    some (.nx (eS T R C (some (.sh (evD R C))) (some (.sh (dcD T R C))) (some (.own (smD T R C))) (some (.sh (.int (rs T p)))) (some (.sh (rectD p))) (some (.sh (rectD p))) (some (.own (tolD T R C p p'))) none)) := by
  have hf := h.fits hR hC
  have hb := bound_small h hR.2 hC.2
  have c1 := sum_vals hf hb.1
  have c2 := d_greatest_sum (h.times hR hC (k := -1) (by decide))
  rw [hp'] at c2
  have e1 : rs (times (-1) T) p' = -(rs T p') := by rw [rs_times]; omega
  have c3 := d_each (T := T) (k := -1) (by decide) (by have := h.r; omega) fun row hr => by have := h.c row hr; omega
  have c4 := d_count_with_sum hf (n := bound T + 1) (by omega)
  have e2 : ((rects R C).filter fun q => decide (rs T q = bound T + 1)) = [] := List.filter_eq_nil_iff.mpr fun q hq => by
    have := rect_range hf hq
    simp only [decide_eq_true_eq]
    omega
  rw [e2] at c4
  have c5 := d_is_table hf
  have i0 := imm_tab T
  have i2 := imm_tab (times (-1) T)
  have i3 := imm_rect p
  have i4 := imm_rect p'
  rw [bestD_some, e1] at c2
  have z0 : (([] : List Rect).length : Int) = 0 := rfl
  clear hf hb h hR hC e1 e2 hp'
  walk_at "pd*"
  rfl
end
end PD.K47
set_option Elab.async false
set_option linter.all false
set_option maxRecDepth 100000
set_option maxHeartbeats 4000000
namespace PD.K47
set_option autoImplicit false
open PySem PySem.Spec L2 PD
open PyProof.Rows hiding St
local macro_rules | `(tactic| walk_at "pd") => `(tactic| simp only [dC, dVar, dBin, dCmp_ap, dCmpT, wB, dChainT, dOfT, dTruT, dAndT, dOrT, dNotT, dAndV, dOrV, dNotV, dIf, dNeg, dNil, dCons, gives, give_vr, give_sh, give_fr, get_sh, get_fr, get_vr, En.at, En.with, Sl.d, dTup, dLst, dCut, dNo, dPart, bCut, dNx, dSeq, dIfS, dRet, dRetN, dBk, dCt, dDrop, dStIx, set_l0, set_l1, gN, gCons, gTup, gNil, dSet, dPar, dUnp, settle, puts, En.put, En.set, dItems, dRg1, dRg2, itemsOf, dB1, semOf, slots, endOf, dCall, gets, light_f, light_t, wOf_f, wOf_t, is_nn, is_bn, is_in, is_sn, is_ln, is_tn, is_bb, isn_nn, isn_bn, isn_in, isn_sn, isn_ln, isn_tn, isn_bb, tyD_list, tyD_dict, eq_self, imm_none, imm_bool, imm_int, imm_str, imm_tup, imm_list, imms_nil, imms_cons, inner_list,
  isi_int, isi_bool, isi_tuple, isi_list, isi_str, isi_dict, isInt, isBool, isTup, isLst, isStr, isDic, En.wipe, wipeS, restoreS, dMut, En.mine, En.own, dEnum, dZip, tru_none, tru_bool, tru_int, tru_list, tru_tup, len_list, len_tup, len_dict, PD.add_int, PD.sub_int, int_int, abs_int, le_int, lt_int, gt_int, ge_int, PD.eq_int, PD.ne_int, PD.ne_bool, PD.eq_bool, PD.eq_nil, ix_tup0, ix_tup1, ix_tup2, ix_tup3, ix_list0, ix_list1, tup_list, tup_tup, lst_list, lst_tup, dCallC, notVr, semC,
  Option.bind_some, Option.map_some, Option.bind_none, Option.map_none, List.getElem?_cons_zero, List.getElem?_cons_succ, List.length_cons, List.length_nil, List.map_cons, List.map_nil, List.replicate, List.append_nil, List.nil_append, List.cons_append, List.set_cons_zero, List.set_cons_succ, List.all_cons, List.all_nil, Nat.sub_self, Nat.reduceAdd, Nat.reduceSub, Nat.reduceLT, Nat.reduceEqDiff, List.mem_cons, List.not_mem_nil,  Nat.reduceLeDiff, if_true, if_false, reduceIte, ite_self, Bool.false_eq_true, Bool.not_true, Bool.not_false, decide_true, decide_false, Option.getD_some, Option.getD_none, Bool.true_and, Bool.and_true, Bool.false_and, Bool.and_false, false_and, and_false, true_and, and_true, not_true_eq_false, not_false_eq_true, or_self, or_false, false_or, List.isEmpty_cons, List.isEmpty_nil, Nat.zero_ne_one])
local macro_rules | `(tactic| walk_at "pd*") => `(tactic| simp only [dC, dVar, dBin, dCmp_ap, dCmpT, wB, dChainT, dOfT, dTruT, dAndT, dOrT, dNotT, dAndV, dOrV, dNotV, dIf, dNeg, dNil, dCons, gives, give_vr, give_sh, give_fr, get_sh, get_fr, get_vr, En.at, En.with, Sl.d, dTup, dLst, dCut, dNo, dPart, bCut, dNx, dSeq, dIfS, dRet, dRetN, dBk, dCt, dDrop, dStIx, set_l0, set_l1, gN, gCons, gTup, gNil, dSet, dPar, dUnp, settle, puts, En.put, En.set, dItems, dRg1, dRg2, itemsOf, dB1, semOf, slots, endOf, dCall, gets, light_f, light_t, wOf_f, wOf_t, is_nn, is_bn, is_in, is_sn, is_ln, is_tn, is_bb, isn_nn, isn_bn, isn_in, isn_sn, isn_ln, isn_tn, isn_bb, tyD_list, tyD_dict, eq_self, imm_none, imm_bool, imm_int, imm_str, imm_tup, imm_list, imms_nil, imms_cons, inner_list,
  isi_int, isi_bool, isi_tuple, isi_list, isi_str, isi_dict, isInt, isBool, isTup, isLst, isStr, isDic, En.wipe, wipeS, restoreS, dMut, En.mine, En.own, dEnum, dZip, tru_none, tru_bool, tru_int, tru_list, tru_tup, len_list, len_tup, len_dict, PD.add_int, PD.sub_int, int_int, abs_int, le_int, lt_int, gt_int, ge_int, PD.eq_int, PD.ne_int, PD.ne_bool, PD.eq_bool, PD.eq_nil, ix_tup0, ix_tup1, ix_tup2, ix_tup3, ix_list0, ix_list1, tup_list, tup_tup, lst_list, lst_tup, dCallC, notVr, semC,
  Option.bind_some, Option.map_some, Option.bind_none, Option.map_none, List.getElem?_cons_zero, List.getElem?_cons_succ, List.length_cons, List.length_nil, List.map_cons, List.map_nil, List.replicate, List.append_nil, List.nil_append, List.cons_append, List.set_cons_zero, List.set_cons_succ, List.all_cons, List.all_nil, Nat.sub_self, Nat.reduceAdd, Nat.reduceSub, Nat.reduceLT, Nat.reduceEqDiff, List.mem_cons, List.not_mem_nil,  Nat.reduceLeDiff, if_true, if_false, reduceIte, ite_self, Bool.false_eq_true, Bool.not_true, Bool.not_false, decide_true, decide_false, Option.getD_some, Option.getD_none, Bool.true_and, Bool.and_true, Bool.false_and, Bool.and_false, false_and, and_false, true_and, and_true, not_true_eq_false, not_false_eq_true, or_self, or_false, false_or, List.isEmpty_cons, List.isEmpty_nil, Nat.zero_ne_one, *])
theorem in4 {R : Nat} (h : 1 ≤ R ∧ R ≤ 4) : R ∈ [1, 2, 3, 4] := by
  simp only [List.mem_cons, List.not_mem_nil, or_false]
  omega
theorem in5 {R : Nat} (h : 1 ≤ R ∧ R ≤ 5) : R ∈ [1, 2, 3, 4, 5] := by
  simp only [List.mem_cons, List.not_mem_nil, or_false]
  omega
theorem quart : ∀ R ∈ ([1, 2, 3, 4] : List Nat), ∀ C ∈ ([1, 2, 3, 4, 5] : List Nat), ((R : Int) * ((R : Int) + 1) * (C : Int) * ((C : Int) + 1)) / 4 = ((rects R C).length : Int) := by decide +kernel
theorem same8 {d : D} (h : plainD 8 d = true) : m__law_same 8 [d, d] = some (false, .bool true) := same_refl 8 d h
section
variable {T : Tab} {R C : Nat}
theorem plain_int (n : Nat) (i : Int) : plainD (n + 1) (.int i) = true := rfl
theorem plain_bool (n : Nat) (i : Bool) : plainD (n + 1) (.bool i) = true := rfl
theorem plain_list (n : Nat) (ds : List D) : plainD (n + 1) (.list ds) = (ds.all (plainD n) && decide (ds.length ≤ 100000)) := rfl
theorem plain_tup (n : Nat) (ds : List D) : plainD (n + 1) (.tuple ds) = (ds.all (plainD n) && decide (ds.length ≤ 100000)) := rfl
theorem plain_rect (n : Nat) (q : Rect) : plainD (n + 2) (rectD q) = true := by
  unfold rectD
  rw [plain_tup]
  simp only [List.all_cons, List.all_nil, plain_int, Bool.and_true, List.length_cons, List.length_nil]
  rfl
theorem st8 (h : Drawn T R C) (hR : 1 ≤ R ∧ R ≤ 4) (hC : 1 ≤ C ∧ C ≤ 5) {p p' : Rect} (hx : bMax (smD T R C) = some (.sh (.int (rs T p)))) (hn : bMin (smD T R C) = some (.sh (.int (rs T p')))) :
    dIfS (dOrT (dNotT (dTruT (dCall (m__law_same 8) (dCons (dVar 13) (dCons (dLst (dCons (dB1 bLen (dVar 4)) (dCons (dB1 bMax (dVar 8)) (dCons (dVar 11) (dCons (dNeg (dB1 bMin (dVar 8))) (dCons (dC (.int 0)) (dCons (dC (.bool true)) dNil))))))) dNil))))) (dCmpT cNe (dB1 bLen (dVar 4)) (dBin bDiv (dBin bMul (dBin bMul (dBin bMul (dVar 1) (dBin bAdd (dVar 1) (dC (.int 1)))) (dVar 2)) (dBin bAdd (dVar 2) (dC (.int 1)))) (dC (.int 4))))) (dRet (dC (.bool false))) dNx
      (eS T R C (some (.sh (evD R C))) (some (.sh (dcD T R C))) (some (.own (smD T R C))) (some (.sh (.int (rs T p)))) (some (.sh (rectD p))) (some (.sh (rectD p))) (some (.own (tolD T R C p p'))) none) =
    some (.nx (eS T R C (some (.sh (evD R C))) (some (.sh (dcD T R C))) (some (.own (smD T R C))) (some (.sh (.int (rs T p)))) (some (.sh (rectD p))) (some (.sh (rectD p))) (some (.own (tolD T R C p p'))) none)) := by
  have c1 := same8 (d := tolD T R C p p') (by
    rw [plain_list]
    simp only [List.all_cons, List.all_nil, plain_rect, plain_int, plain_bool, Bool.and_true, List.length_cons, List.length_nil]
    rfl)
  have q := quart R (in4 hR) C (in5 hC)
  have m1 : bMul (.int (R : Int)) (.int ((R : Int) + 1)) = some (.sh (.int ((R : Int) * ((R : Int) + 1)))) := PD.mul_int (.inl ⟨by omega, by omega⟩)
  have m2 : bMul (.int ((R : Int) * ((R : Int) + 1))) (.int (C : Int)) = some (.sh (.int ((R : Int) * ((R : Int) + 1) * (C : Int)))) := PD.mul_int (.inr ⟨by omega, by omega⟩)
  have m3 : bMul (.int ((R : Int) * ((R : Int) + 1) * (C : Int))) (.int ((C : Int) + 1)) = some (.sh (.int ((R : Int) * ((R : Int) + 1) * (C : Int) * ((C : Int) + 1)))) := PD.mul_int (.inr ⟨by omega, by omega⟩)
  have m4 : bDiv (.int ((R : Int) * ((R : Int) + 1) * (C : Int) * ((C : Int) + 1))) (.int 4) = some (.sh (.int ((rects R C).length : Int))) := by
    rw [PD.div_int ⟨by decide, by decide⟩, q]
  have l1 : bLen (evD R C) = some (.sh (.int ((rects R C).length : Int))) := by unfold evD; rw [len_list, List.length_map]
  have i0 := imm_rect p
  clear q h hR hC
  walk_at "pd*"
abbrev eF (T : Tab) (R C : Nat) (p : Rect) (s13 s14 : Option Sl) : En := eS T R C (some (.sh (evD R C))) (some (.sh (dcD T R C))) (some (.own (smD T R C))) (some (.sh (.int (rs T p)))) (some (.sh (rectD p))) (some (.sh (rectD p))) s13 s14
theorem turn_eq (T : Tab) (C : Nat) : tabD (turn T C) = .tuple ((List.range C).map fun j => .tuple (T.map fun row => .int ((row[j]?).getD 0))) := by
  unfold tabD turn rowD
  rw [List.map_map]
  congr 1
  refine List.map_congr_left fun j _ => ?_
  show PyData.tuple _ = _
  rw [List.map_map]
  rfl
/-- the turned table's comprehension, wherever it stands -/
theorem turn_lc {ρ : En} {a i j : Nat} {fi : DI} (h : Fits T R C) (hf : fi ρ = some (rgD 0 C, ρ)) (hT : ρ.sl[a]? = some (some (.sh (tabD T)))) (ai : a ≠ i) (aj : a ≠ j) (ij : i ≠ j)
    (hi : decide (i < ρ.sl.length) = true) (hj : decide (j < ρ.sl.length) = true) (hci : (ρ.cup && i == 0) = false) (hcj : (ρ.cup && j == 0) = false) :
    dB1 bTuple (dLc fi (gN j) dYes (dB1 bTuple (dLc (dItems (dVar a)) (gN i) dYes (dBin bIx (dVar i) (dVar j)) [i])) [j]) ρ = some (.sh (tabD (turn T C)), ρ) := by
  have hl := h.r
  have hr2 := h.r2
  have hc2 := h.c2
  have lj : j < ρ.sl.length := of_decide_eq_true hj
  have li : i < ρ.sl.length := of_decide_eq_true hi
  have out : dLc fi (gN j) dYes (dB1 bTuple (dLc (dItems (dVar a)) (gN i) dYes (dBin bIx (dVar i) (dVar j)) [i])) [j] ρ = some (.fr (.list ((List.range C).map fun j => .tuple (T.map fun row => .int ((row[j]?).getD 0)))), ρ) := by
    refine dLc_sh (emb := fun (y : Nat) => PyData.int (y : Int)) _ (List.range C) hf (rgD_nat _) (by rw [List.length_range]; omega) (fun y hy => ?_) hj hcj
    have hy := List.mem_range.mp hy
    have f1 : dItems (dVar a) (ρ.with j (.int (y : Int))) = some (T.map rowD, ρ.with j (.int (y : Int))) := by
      unfold dItems
      rw [dVar_sh (show (ρ.with j (.int (y : Int))).sl[a]? = _ by unfold En.with; simp only; rw [List.getElem?_set_ne (Ne.symm aj)]; exact hT)]
      rfl
    have inn : dLc (dItems (dVar a)) (gN i) dYes (dBin bIx (dVar i) (dVar j)) [i] (ρ.with j (.int (y : Int))) = some (.fr (.list (T.map fun row => .int ((row[y]?).getD 0))), ρ.with j (.int (y : Int))) := by
      refine dLc_sh (emb := rowD) _ T f1 rfl (by omega) (fun row hr => ?_) (by unfold En.with; simp only; rw [List.length_set]; exact hi) hci
      have v1 : dVar i ((ρ.with j (.int (y : Int))).with i (rowD row)) = some (.sh (rowD row), (ρ.with j (.int (y : Int))).with i (rowD row)) := dVar_sh (by unfold En.with; simp only; rw [List.getElem?_set_self (by rw [List.length_set]; exact li)])
      have v2 : dVar j ((ρ.with j (.int (y : Int))).with i (rowD row)) = some (.sh (.int (y : Int)), (ρ.with j (.int (y : Int))).with i (rowD row)) := dVar_sh (by unfold En.with; simp only; rw [List.getElem?_set_ne ij, List.getElem?_set_self lj])
      have hrl := h.c row hr
      have g : bIx (rowD row) (.int (y : Int)) = some (.sh (.int ((row[y]?).getD 0))) := by
        unfold rowD
        refine ix_tupN ?_
        rw [List.getElem?_map, List.getElem?_eq_getElem (by omega)]
        rfl
      unfold dBin
      rw [v1, Option.bind_some]
      simp only
      rw [v2, Option.bind_some]
      simp only [get_sh, Option.bind_some, g, Option.map_some]
    exact dB1_at inn rfl
  rw [turn_eq]
  exact dB1_at out rfl
theorem st9 (h : Fits T R C) {p : Rect} (s13 : Option Sl) : dSet 14 (dB1 bTuple (dLc (dRg1 (dVar 2)) (gN 15) dYes (dB1 bTuple (dLc (dItems (dVar 0)) (gN 6) dYes (dBin bIx (dVar 6) (dVar 15)) [6])) [15])) (eF T R C p s13 none) =
    some (.nx (eF T R C p s13 (some (.sh (tabD (turn T C)))))) := by
  have hc2 := h.c2
  rw [dSet_sh (turn_lc h (rg1_var (n := C) rfl (by omega)) rfl (by decide) (by decide) (by decide) rfl rfl rfl rfl)]
  rfl
end
end PD.K47
set_option Elab.async false
set_option linter.all false
set_option maxRecDepth 100000
set_option maxHeartbeats 4000000
namespace PD.K47
set_option autoImplicit false
open PySem PySem.Spec L2 PD
open PyProof.Rows hiding St
local macro_rules | `(tactic| walk_at "pd") => `(tactic| simp only [dC, dVar, dBin, dCmp_ap, dCmpT, wB, dChainT, dOfT, dTruT, dAndT, dOrT, dNotT, dAndV, dOrV, dNotV, dIf, dNeg, dNil, dCons, gives, give_vr, give_sh, give_fr, get_sh, get_fr, get_vr, En.at, En.with, Sl.d, dTup, dLst, dCut, dNo, dPart, bCut, dNx, dSeq, dIfS, dRet, dRetN, dBk, dCt, dDrop, dStIx, set_l0, set_l1, gN, gCons, gTup, gNil, dSet, dPar, dUnp, settle, puts, En.put, En.set, dItems, dRg1, dRg2, itemsOf, dB1, semOf, slots, endOf, dCall, gets, light_f, light_t, wOf_f, wOf_t, is_nn, is_bn, is_in, is_sn, is_ln, is_tn, is_bb, isn_nn, isn_bn, isn_in, isn_sn, isn_ln, isn_tn, isn_bb, tyD_list, tyD_dict, eq_self, imm_none, imm_bool, imm_int, imm_str, imm_tup, imm_list, imms_nil, imms_cons, inner_list,
  isi_int, isi_bool, isi_tuple, isi_list, isi_str, isi_dict, isInt, isBool, isTup, isLst, isStr, isDic, En.wipe, wipeS, restoreS, dMut, En.mine, En.own, dEnum, dZip, tru_none, tru_bool, tru_int, tru_list, tru_tup, len_list, len_tup, len_dict, PD.add_int, PD.sub_int, int_int, abs_int, le_int, lt_int, gt_int, ge_int, PD.eq_int, PD.ne_int, PD.ne_bool, PD.eq_bool, PD.eq_nil, ix_tup0, ix_tup1, ix_tup2, ix_tup3, ix_list0, ix_list1, tup_list, tup_tup, lst_list, lst_tup, dCallC, notVr, semC,
  Option.bind_some, Option.map_some, Option.bind_none, Option.map_none, List.getElem?_cons_zero, List.getElem?_cons_succ, List.length_cons, List.length_nil, List.map_cons, List.map_nil, List.replicate, List.append_nil, List.nil_append, List.cons_append, List.set_cons_zero, List.set_cons_succ, List.all_cons, List.all_nil, Nat.sub_self, Nat.reduceAdd, Nat.reduceSub, Nat.reduceLT, Nat.reduceEqDiff, List.mem_cons, List.not_mem_nil,  Nat.reduceLeDiff, if_true, if_false, reduceIte, ite_self, Bool.false_eq_true, Bool.not_true, Bool.not_false, decide_true, decide_false, Option.getD_some, Option.getD_none, Bool.true_and, Bool.and_true, Bool.false_and, Bool.and_false, false_and, and_false, true_and, and_true, not_true_eq_false, not_false_eq_true, or_self, or_false, false_or, List.isEmpty_cons, List.isEmpty_nil, Nat.zero_ne_one])
local macro_rules | `(tactic| walk_at "pd*") => `(tactic| simp only [dC, dVar, dBin, dCmp_ap, dCmpT, wB, dChainT, dOfT, dTruT, dAndT, dOrT, dNotT, dAndV, dOrV, dNotV, dIf, dNeg, dNil, dCons, gives, give_vr, give_sh, give_fr, get_sh, get_fr, get_vr, En.at, En.with, Sl.d, dTup, dLst, dCut, dNo, dPart, bCut, dNx, dSeq, dIfS, dRet, dRetN, dBk, dCt, dDrop, dStIx, set_l0, set_l1, gN, gCons, gTup, gNil, dSet, dPar, dUnp, settle, puts, En.put, En.set, dItems, dRg1, dRg2, itemsOf, dB1, semOf, slots, endOf, dCall, gets, light_f, light_t, wOf_f, wOf_t, is_nn, is_bn, is_in, is_sn, is_ln, is_tn, is_bb, isn_nn, isn_bn, isn_in, isn_sn, isn_ln, isn_tn, isn_bb, tyD_list, tyD_dict, eq_self, imm_none, imm_bool, imm_int, imm_str, imm_tup, imm_list, imms_nil, imms_cons, inner_list,
  isi_int, isi_bool, isi_tuple, isi_list, isi_str, isi_dict, isInt, isBool, isTup, isLst, isStr, isDic, En.wipe, wipeS, restoreS, dMut, En.mine, En.own, dEnum, dZip, tru_none, tru_bool, tru_int, tru_list, tru_tup, len_list, len_tup, len_dict, PD.add_int, PD.sub_int, int_int, abs_int, le_int, lt_int, gt_int, ge_int, PD.eq_int, PD.ne_int, PD.ne_bool, PD.eq_bool, PD.eq_nil, ix_tup0, ix_tup1, ix_tup2, ix_tup3, ix_list0, ix_list1, tup_list, tup_tup, lst_list, lst_tup, dCallC, notVr, semC,
  Option.bind_some, Option.map_some, Option.bind_none, Option.map_none, List.getElem?_cons_zero, List.getElem?_cons_succ, List.length_cons, List.length_nil, List.map_cons, List.map_nil, List.replicate, List.append_nil, List.nil_append, List.cons_append, List.set_cons_zero, List.set_cons_succ, List.all_cons, List.all_nil, Nat.sub_self, Nat.reduceAdd, Nat.reduceSub, Nat.reduceLT, Nat.reduceEqDiff, List.mem_cons, List.not_mem_nil,  Nat.reduceLeDiff, if_true, if_false, reduceIte, ite_self, Bool.false_eq_true, Bool.not_true, Bool.not_false, decide_true, decide_false, Option.getD_some, Option.getD_none, Bool.true_and, Bool.and_true, Bool.false_and, Bool.and_false, false_and, and_false, true_and, and_true, not_true_eq_false, not_false_eq_true, or_self, or_false, false_or, List.isEmpty_cons, List.isEmpty_nil, Nat.zero_ne_one, *])
section
variable {T : Tab} {R C : Nat}
theorem perm_swap (hR : 1 ≤ R ∧ R ≤ 4) (hC : 1 ≤ C ∧ C ≤ 5) : List.Perm (rects C R) ((rects R C).map swapR) := by
  have := shapes R (in4 hR) C (in5 hC)
  rw [Bool.and_eq_true, Bool.and_eq_true] at this
  exact (List.isPerm_iff.mp this.1.1).symm
theorem perm_flip (hR : 1 ≤ R ∧ R ≤ 4) (hC : 1 ≤ C ∧ C ≤ 5) : List.Perm (rects R C) ((rects R C).map (flipR R)) := by
  have := shapes R (in4 hR) C (in5 hC)
  rw [Bool.and_eq_true, Bool.and_eq_true] at this
  exact (List.isPerm_iff.mp this.1.2).symm
theorem cnt_turn (h : Fits T R C) (hR : 1 ≤ R ∧ R ≤ 4) (hC : 1 ≤ C ∧ C ≤ 5) (n : Int) : cnt (turn T C) (rects C R) n = cnt T (rects R C) n :=
  cnt_map (perm_swap hR hC) fun q hq => by rw [rs_turn T h.r (rects_in hq)]
theorem cnt_rev (h : Fits T R C) (hR : 1 ≤ R ∧ R ≤ 4) (hC : 1 ≤ C ∧ C ≤ 5) (n : Int) : cnt T.reverse (rects R C) n = cnt T (rects R C) n :=
  cnt_map (perm_flip hR hC) fun q hq => by rw [rs_rev T h.r (rects_in hq)]
theorem cnt_neg (V : List Rect) (n : Int) : cnt (times (-1) T) V (-n) = cnt T V n := cnt_same fun q _ => by rw [rs_times]; omega
theorem cnt_five (V : List Rect) (n : Int) : cnt (times 5 T) V (5 * n) = cnt T V n := cnt_same fun q _ => by rw [rs_times]; omega
theorem d_cnt (h : Fits T R C) {n : Int} (hn : -400000000 ≤ n ∧ n ≤ 400000000) : m_count_with_sum [tabD T, .int n] = some (false, .int (cnt T (rects R C) n : Int)) := d_count_with_sum h hn
theorem rev_tab (T : Tab) : bRev (tabD T) = some (.sh (tabD T.reverse)) := by
  unfold tabD
  rw [List.map_reverse]
  rfl
/-- counts.get(n, 0) -/
theorem get_cnt (h : Fits T R C) (hb : 0 ≤ bound T) (n : Int) {ρ : En} (h7 : ρ.sl[7]? = some (some (.sh (dcD T R C)))) (h5 : ρ.sl[5]? = some (some (.sh (.int n)))) : dGet2 (dVar 7) (dVar 5) (dC (.int 0)) ρ = some (.sh (.int (cnt T (rects R C) n : Int)), ρ) := by
  unfold dGet2
  rw [dVar_sh h7, Option.bind_some]
  simp only
  have i1 : W.isDict (.sh (dcD T R C)) ρ = true := rfl
  rw [if_pos i1, dVar_sh h5, Option.bind_some]
  simp only [dC, Option.bind_some, get_sh]
  show (match dLook (pairsOf T (rects R C)) (.inl n) with
    | some d => some (W.sh d, ρ)
    | none => some (W.sh (.int 0), ρ)) = _
  rw [look_pairs]
  by_cases c : -(bound T) ≤ n ∧ n < -(bound T) + (nB T : Int)
  · rw [if_pos c]
  · rw [if_neg c]
    have : cnt T (rects R C) n = 0 := by
      by_cases z : 0 < cnt T (rects R C) n
      · obtain ⟨q, hq, e⟩ := cnt_pos.mp z
        have := rect_range h hq
        unfold nB at c
        exact absurd ⟨by omega, by omega⟩ c
      · omega
    rw [this]
    rfl
abbrev cI (T : Tab) (R C : Nat) (n : Int) : D := .int (cnt T (rects R C) n : Int)
abbrev c3 (T : Tab) (R C : Nat) (n : Int) : Option Sl := some (.own (.list [cI T R C n, cI T R C n, cI T R C n]))
theorem one_turn (h : Drawn T R C) (hR : 1 ≤ R ∧ R ≤ 4) (hC : 1 ≤ C ∧ C ≤ 5) {p : Rect} (s13 : Option Sl) {n : Int} (hn : -1000 ≤ n ∧ n ≤ 1000) :
    l1__law_counts_right ((eF T R C p s13 (some (.sh (tabD (turn T C))))).with 5 (.int n)) = some (.nx ((eF T R C p (c3 T R C n) (some (.sh (tabD (turn T C))))).with 5 (.int n))) := by
  have hf := h.fits hR hC
  have hb := bound_small h hR.2 hC.2
  have hl := h.r
  have hlc : ∀ row ∈ T, row.length ≤ 100 := fun row hr => by have := h.c row hr; omega
  have e1 := d_each (T := T) (k := -1) (by decide) (by omega) hlc
  have e2 := d_each (T := T) (k := 5) (by decide) (by omega) hlc
  have c1 := d_cnt (h.times hR hC (k := -1) (by decide)) (n := -n) (by omega)
  have c2 := d_cnt (Fits.turn h hR hC) (n := n) (by omega)
  have c5 := d_cnt (h.times hR hC (k := 5) (by decide)) (n := 5 * n) (by omega)
  have c4 := d_cnt hf.rev (n := n) (by omega)
  rw [cnt_neg] at c1
  rw [cnt_turn hf hR hC] at c2
  rw [cnt_five] at c5
  rw [cnt_rev hf hR hC] at c4
  have i0 := imm_tab T
  have i1 := imm_tab (times (-1) T)
  have i2 := imm_tab (turn T C)
  have i3 := imm_tab (times 5 T)
  have i4 := imm_tab T.reverse
  have r1 := rev_tab T
  have m5 : bMul (.int 5) (.int n) = some (.sh (.int (5 * n))) := PD.mul_int (.inl ⟨by decide, by decide⟩)
  have g1 := get_cnt hf hb.1 n (ρ := (eF T R C p (c3 T R C n) (some (.sh (tabD (turn T C))))).with 5 (.int n)) rfl rfl
  have a1 : bAdd (.list [cI T R C n, cI T R C n, cI T R C n]) (.list [cI T R C n]) = some (.fr (.list [cI T R C n, cI T R C n, cI T R C n, cI T R C n])) := PD.add_list (by simp only [List.length_cons, List.length_nil]; omega)
  have m4 : bMul (.list [cI T R C n]) (.int 4) = some (.fr (.list [cI T R C n, cI T R C n, cI T R C n, cI T R C n])) := PD.mul_list ⟨by omega, by omega, by simp only [List.length_cons, List.length_nil]; omega⟩
  have s1 := same8 (d := .list [cI T R C n, cI T R C n, cI T R C n, cI T R C n]) (by
    rw [plain_list]
    simp only [List.all_cons, List.all_nil, plain_int, Bool.and_true, List.length_cons, List.length_nil]
    rfl)
  clear hf hb hl hlc h hR hC hn
  simp only [En.with, List.set_cons_zero, List.set_cons_succ] at g1
  unfold l1__law_counts_right
  generalize dGet2 (dVar 7) (dVar 5) (dC (.int 0)) = X at g1 ⊢
  walk_at "pd*"
end
end PD.K47
set_option Elab.async false
set_option linter.all false
set_option maxRecDepth 100000
set_option maxHeartbeats 4000000
namespace PD.K47
set_option autoImplicit false
open PySem PySem.Spec L2 PD
open PyProof.Rows hiding St
local macro_rules | `(tactic| walk_at "pd") => `(tactic| simp only [dC, dVar, dBin, dCmp_ap, dCmpT, wB, dChainT, dOfT, dTruT, dAndT, dOrT, dNotT, dAndV, dOrV, dNotV, dIf, dNeg, dNil, dCons, gives, give_vr, give_sh, give_fr, get_sh, get_fr, get_vr, En.at, En.with, Sl.d, dTup, dLst, dCut, dNo, dPart, bCut, dNx, dSeq, dIfS, dRet, dRetN, dBk, dCt, dDrop, dStIx, set_l0, set_l1, gN, gCons, gTup, gNil, dSet, dPar, dUnp, settle, puts, En.put, En.set, dItems, dRg1, dRg2, itemsOf, dB1, semOf, slots, endOf, dCall, gets, light_f, light_t, wOf_f, wOf_t, is_nn, is_bn, is_in, is_sn, is_ln, is_tn, is_bb, isn_nn, isn_bn, isn_in, isn_sn, isn_ln, isn_tn, isn_bb, tyD_list, tyD_dict, eq_self, imm_none, imm_bool, imm_int, imm_str, imm_tup, imm_list, imms_nil, imms_cons, inner_list,
  isi_int, isi_bool, isi_tuple, isi_list, isi_str, isi_dict, isInt, isBool, isTup, isLst, isStr, isDic, En.wipe, wipeS, restoreS, dMut, En.mine, En.own, dEnum, dZip, tru_none, tru_bool, tru_int, tru_list, tru_tup, len_list, len_tup, len_dict, PD.add_int, PD.sub_int, int_int, abs_int, le_int, lt_int, gt_int, ge_int, PD.eq_int, PD.ne_int, PD.ne_bool, PD.eq_bool, PD.eq_nil, ix_tup0, ix_tup1, ix_tup2, ix_tup3, ix_list0, ix_list1, tup_list, tup_tup, lst_list, lst_tup, dCallC, notVr, semC,
  Option.bind_some, Option.map_some, Option.bind_none, Option.map_none, List.getElem?_cons_zero, List.getElem?_cons_succ, List.length_cons, List.length_nil, List.map_cons, List.map_nil, List.replicate, List.append_nil, List.nil_append, List.cons_append, List.set_cons_zero, List.set_cons_succ, List.all_cons, List.all_nil, Nat.sub_self, Nat.reduceAdd, Nat.reduceSub, Nat.reduceLT, Nat.reduceEqDiff, List.mem_cons, List.not_mem_nil,  Nat.reduceLeDiff, if_true, if_false, reduceIte, ite_self, Bool.false_eq_true, Bool.not_true, Bool.not_false, decide_true, decide_false, Option.getD_some, Option.getD_none, Bool.true_and, Bool.and_true, Bool.false_and, Bool.and_false, false_and, and_false, true_and, and_true, not_true_eq_false, not_false_eq_true, or_self, or_false, false_or, List.isEmpty_cons, List.isEmpty_nil, Nat.zero_ne_one])
local macro_rules | `(tactic| walk_at "pd*") => `(tactic| simp only [dC, dVar, dBin, dCmp_ap, dCmpT, wB, dChainT, dOfT, dTruT, dAndT, dOrT, dNotT, dAndV, dOrV, dNotV, dIf, dNeg, dNil, dCons, gives, give_vr, give_sh, give_fr, get_sh, get_fr, get_vr, En.at, En.with, Sl.d, dTup, dLst, dCut, dNo, dPart, bCut, dNx, dSeq, dIfS, dRet, dRetN, dBk, dCt, dDrop, dStIx, set_l0, set_l1, gN, gCons, gTup, gNil, dSet, dPar, dUnp, settle, puts, En.put, En.set, dItems, dRg1, dRg2, itemsOf, dB1, semOf, slots, endOf, dCall, gets, light_f, light_t, wOf_f, wOf_t, is_nn, is_bn, is_in, is_sn, is_ln, is_tn, is_bb, isn_nn, isn_bn, isn_in, isn_sn, isn_ln, isn_tn, isn_bb, tyD_list, tyD_dict, eq_self, imm_none, imm_bool, imm_int, imm_str, imm_tup, imm_list, imms_nil, imms_cons, inner_list,
  isi_int, isi_bool, isi_tuple, isi_list, isi_str, isi_dict, isInt, isBool, isTup, isLst, isStr, isDic, En.wipe, wipeS, restoreS, dMut, En.mine, En.own, dEnum, dZip, tru_none, tru_bool, tru_int, tru_list, tru_tup, len_list, len_tup, len_dict, PD.add_int, PD.sub_int, int_int, abs_int, le_int, lt_int, gt_int, ge_int, PD.eq_int, PD.ne_int, PD.ne_bool, PD.eq_bool, PD.eq_nil, ix_tup0, ix_tup1, ix_tup2, ix_tup3, ix_list0, ix_list1, tup_list, tup_tup, lst_list, lst_tup, dCallC, notVr, semC,
  Option.bind_some, Option.map_some, Option.bind_none, Option.map_none, List.getElem?_cons_zero, List.getElem?_cons_succ, List.length_cons, List.length_nil, List.map_cons, List.map_nil, List.replicate, List.append_nil, List.nil_append, List.cons_append, List.set_cons_zero, List.set_cons_succ, List.all_cons, List.all_nil, Nat.sub_self, Nat.reduceAdd, Nat.reduceSub, Nat.reduceLT, Nat.reduceEqDiff, List.mem_cons, List.not_mem_nil,  Nat.reduceLeDiff, if_true, if_false, reduceIte, ite_self, Bool.false_eq_true, Bool.not_true, Bool.not_false, decide_true, decide_false, Option.getD_some, Option.getD_none, Bool.true_and, Bool.and_true, Bool.false_and, Bool.and_false, false_and, and_false, true_and, and_true, not_true_eq_false, not_false_eq_true, or_self, or_false, false_or, List.isEmpty_cons, List.isEmpty_nil, Nat.zero_ne_one, *])
section
variable {T : Tab} {R C : Nat}
def s13at (T : Tab) (R C : Nat) (p p' : Rect) (ns : List Int) : Nat → Option Sl
  | 0 => some (.own (tolD T R C p p'))
  | i + 1 => c3 T R C ((ns[i]?).getD 0)
theorem st10 (h : Drawn T R C) (hR : 1 ≤ R ∧ R ≤ 4) (hC : 1 ≤ C ∧ C ≤ 5) {p p' : Rect} (hx : bMax (smD T R C) = some (.sh (.int (rs T p)))) (hn : bMin (smD T R C) = some (.sh (.int (rs T p')))) (hp : p ∈ rects R C) (hp' : p' ∈ rects R C) :
    dFor (dItems (dTup (dCons (dB1 bMin (dVar 8)) (dCons (dB1 bMax (dVar 8)) (dCons (dC (.int 0)) (dCons (dC (.int 1)) dNil)))))) (gN 5) l1__law_counts_right [5] (eF T R C p (some (.own (tolD T R C p p'))) (some (.sh (tabD (turn T C))))) =
      some (.nx (eF T R C p (c3 T R C 1) (some (.sh (tabD (turn T C)))))) := by
  have hf := h.fits hR hC
  have hb := bound_small h hR.2 hC.2
  have b1 := rect_range hf hp
  have b2 := rect_range hf hp'
  refine dFor_at (n := 4) (fun i => eF T R C p (s13at T R C p p' [rs T p', rs T p, 0, 1] i) (some (.sh (tabD (turn T C))))) ([rs T p', rs T p, 0, 1].map .int) ?_ rfl fun i d hd => ?_
  · clear h hR hC hf hb b1 b2 hp hp'
    simp only [s13at]
    walk_at "pd*"
  · obtain ⟨n, e, rfl⟩ := map_at hd
    have hn : -1000 ≤ n ∧ n ≤ 1000 := by
      have := List.mem_of_getElem? e
      simp only [List.mem_cons, List.not_mem_nil, or_false] at this
      omega
    have e2 : ([rs T p', rs T p, 0, 1][i]?).getD 0 = n := by rw [e]; rfl
    refine turn_gN (one_turn h hR hC (s13at T R C p p' [rs T p', rs T p, 0, 1] i) hn) ?_
    show some (eF T R C p (c3 T R C n) (some (.sh (tabD (turn T C))))) = some (eF T R C p (c3 T R C (([rs T p', rs T p, 0, 1][i]?).getD 0)) (some (.sh (tabD (turn T C)))))
    rw [e2]
theorem best_turn (h : Fits T R C) (hR : 1 ≤ R ∧ R ≤ 4) (hC : 1 ≤ C ∧ C ≤ 5) {p q : Rect} (hp : p ∈ rects R C) (hm : ∀ r ∈ rects R C, rs T r ≤ rs T p) (hq : q ∈ rects C R) (hm2 : ∀ r ∈ rects C R, rs (turn T C) r ≤ rs (turn T C) q) : rs (turn T C) q = rs T p := by
  have pm := perm_swap hR hC
  obtain ⟨u, hu, rfl⟩ := List.mem_map.mp (pm.mem_iff.mp hq)
  have a := hm u hu
  have b := hm2 (swapR p) (pm.mem_iff.mpr (List.mem_map_of_mem hp))
  rw [rs_turn T h.r (rects_in hp)] at b
  rw [rs_turn T h.r (rects_in hu)] at b ⊢
  omega
theorem st11 (h : Drawn T R C) (hR : 1 ≤ R ∧ R ≤ 4) (hC : 1 ≤ C ∧ C ≤ 5) {p : Rect} (e0 : (rects R C).foldl (beats T) none = some p) (hp : p ∈ rects R C) (hm : ∀ r ∈ rects R C, rs T r ≤ rs T p) :
    dRet (dCall (m__law_same 8) (dCons (dLst (dCons (dBin bIx (dCall m_greatest_sum (dCons (dVar 14) dNil)) (dC (.int 0))) (dCons (dCall m_greatest_sum (dCons (dCall m__law_each (dCons (dVar 0) (dCons (dC (.int 5)) dNil))) dNil)) dNil))) (dCons (dLst (dCons (dVar 9) (dCons (dTup (dCons (dBin bMul (dC (.int 5)) (dVar 9)) (dCons (dVar 10) dNil))) dNil))) dNil)))
      (eF T R C p (c3 T R C 1) (some (.sh (tabD (turn T C))))) = some (.rt (.sh (.bool true)) (eF T R C p (c3 T R C 1) (some (.sh (tabD (turn T C)))))) := by
  have hf := h.fits hR hC
  have hl := h.r
  have hlc : ∀ row ∈ T, row.length ≤ 100 := fun row hr => by have := h.c row hr; omega
  have e2 := d_each (T := T) (k := 5) (by decide) (by omega) hlc
  have g1 := d_greatest_sum (Fits.turn h hR hC)
  obtain ⟨q, eq, hq, hm2, _⟩ := best_ok (turn T C) (rects C R) (rects_ne hC.1 hR.1)
  rw [eq, bestD_some, best_turn hf hR hC hp hm hq hm2] at g1
  have g2 := d_greatest_sum (h.times hR hC (k := 5) (by decide))
  rw [best_times (by decide), e0, bestD_some, rs_times] at g2
  have m5 : bMul (.int 5) (.int (rs T p)) = some (.sh (.int (5 * rs T p))) := PD.mul_int (.inl ⟨by decide, by decide⟩)
  have i1 := imm_rect p
  have i2 := imm_rect q
  have i3 := imm_tab (turn T C)
  have i4 := imm_tab (times 5 T)
  have s1 := same8 (d := .list [.int (rs T p), .tuple [.int (5 * rs T p), rectD p]]) (by
    rw [plain_list]
    simp only [List.all_cons, List.all_nil, plain_tup, plain_rect, plain_int, plain_bool, Bool.and_true, List.length_cons, List.length_nil]
    rfl)
  clear hf hl hlc h hR hC eq hq hm2 e0 hp hm
  walk_at "pd*"
theorem d_counts_right (h : Drawn T R C) (hR : 1 ≤ R ∧ R ≤ 4) (hC : 1 ≤ C ∧ C ≤ 5) : m__law_counts_right [tabD T] = some (false, .bool true) := by
  have hf := h.fits hR hC
  have hb := bound_small h hR.2 hC.2
  obtain ⟨p, e0, hp, hm, hh⟩ := best_ok T (rects R C) (rects_ne hR.1 hC.1)
  obtain ⟨p', e1, hp', hm', _⟩ := best_ok (times (-1) T) (rects R C) (rects_ne hR.1 hC.1)
  have hx := max_some hf hb.1 hp hm
  have hn := min_some hf hb.1 hp' fun q hq => by
    have := hm' q hq
    rw [rs_times, rs_times] at this
    omega
  have s1 := st1 hf
  have s2 := st2 hf
  have s3 := st3 h hR hC
  have s4 := st4 h hR hC
  have s5 := st5 hf e0
  have s6 := st6 hf hh
  have s7 := st7 (p := p) h hR hC e1
  have s8 := st8 h hR hC hx hn
  have s9 := st9 hf (p := p) (some (.own (tolD T R C p p')))
  have s10 := st10 h hR hC hx hn hp hp'
  have s11 := st11 h hR hC e0 hp hm
  have main : b__law_counts_right ⟨false, slots [tabD T] 16⟩ = some (.rt (.sh (.bool true)) (eF T R C p (c3 T R C 1) (some (.sh (tabD (turn T C)))))) := by
    unfold b__law_counts_right
    rw [dSeq_nx s1, dSeq_nx s2, dSeq_nx s3, dSeq_nx s4, dSeq_nx s5, dSeq_nx s6, dSeq_nx s7, dSeq_nx s8, dSeq_nx s9, dSeq_nx s10, s11]
  unfold m__law_counts_right
  rw [if_pos (show [tabD T].length = 1 from rfl)]
  unfold semOf
  rw [main]
  rfl
end
end PD.K47
set_option Elab.async false
set_option linter.all false
set_option maxRecDepth 100000
set_option maxHeartbeats 4000000
namespace PD.K47
set_option autoImplicit false
open PySem PySem.Spec L2 PD
open PyProof.Rows hiding St
local macro_rules | `(tactic| walk_at "pd") => `(tactic| simp only [dC, dVar, dBin, dCmp_ap, dCmpT, wB, dChainT, dOfT, dTruT, dAndT, dOrT, dNotT, dAndV, dOrV, dNotV, dIf, dNeg, dNil, dCons, gives, give_vr, give_sh, give_fr, get_sh, get_fr, get_vr, En.at, En.with, Sl.d, dTup, dLst, dCut, dNo, dPart, bCut, dNx, dSeq, dIfS, dRet, dRetN, dBk, dCt, dDrop, dStIx, set_l0, set_l1, gN, gCons, gTup, gNil, dSet, dPar, dUnp, settle, puts, En.put, En.set, dItems, dRg1, dRg2, itemsOf, dB1, semOf, slots, endOf, dCall, gets, light_f, light_t, wOf_f, wOf_t, is_nn, is_bn, is_in, is_sn, is_ln, is_tn, is_bb, isn_nn, isn_bn, isn_in, isn_sn, isn_ln, isn_tn, isn_bb, tyD_list, tyD_dict, eq_self, imm_none, imm_bool, imm_int, imm_str, imm_tup, imm_list, imms_nil, imms_cons, inner_list,
  isi_int, isi_bool, isi_tuple, isi_list, isi_str, isi_dict, isInt, isBool, isTup, isLst, isStr, isDic, En.wipe, wipeS, restoreS, dMut, En.mine, En.own, dEnum, dZip, tru_none, tru_bool, tru_int, tru_list, tru_tup, len_list, len_tup, len_dict, PD.add_int, PD.sub_int, int_int, abs_int, le_int, lt_int, gt_int, ge_int, PD.eq_int, PD.ne_int, PD.ne_bool, PD.eq_bool, PD.eq_nil, ix_tup0, ix_tup1, ix_tup2, ix_tup3, ix_list0, ix_list1, tup_list, tup_tup, lst_list, lst_tup, dCallC, notVr, semC,
  Option.bind_some, Option.map_some, Option.bind_none, Option.map_none, List.getElem?_cons_zero, List.getElem?_cons_succ, List.length_cons, List.length_nil, List.map_cons, List.map_nil, List.replicate, List.append_nil, List.nil_append, List.cons_append, List.set_cons_zero, List.set_cons_succ, List.all_cons, List.all_nil, Nat.sub_self, Nat.reduceAdd, Nat.reduceSub, Nat.reduceLT, Nat.reduceEqDiff, List.mem_cons, List.not_mem_nil,  Nat.reduceLeDiff, if_true, if_false, reduceIte, ite_self, Bool.false_eq_true, Bool.not_true, Bool.not_false, decide_true, decide_false, Option.getD_some, Option.getD_none, Bool.true_and, Bool.and_true, Bool.false_and, Bool.and_false, false_and, and_false, true_and, and_true, not_true_eq_false, not_false_eq_true, or_self, or_false, false_or, List.isEmpty_cons, List.isEmpty_nil, Nat.zero_ne_one])
local macro_rules | `(tactic| walk_at "pd*") => `(tactic| simp only [dC, dVar, dBin, dCmp_ap, dCmpT, wB, dChainT, dOfT, dTruT, dAndT, dOrT, dNotT, dAndV, dOrV, dNotV, dIf, dNeg, dNil, dCons, gives, give_vr, give_sh, give_fr, get_sh, get_fr, get_vr, En.at, En.with, Sl.d, dTup, dLst, dCut, dNo, dPart, bCut, dNx, dSeq, dIfS, dRet, dRetN, dBk, dCt, dDrop, dStIx, set_l0, set_l1, gN, gCons, gTup, gNil, dSet, dPar, dUnp, settle, puts, En.put, En.set, dItems, dRg1, dRg2, itemsOf, dB1, semOf, slots, endOf, dCall, gets, light_f, light_t, wOf_f, wOf_t, is_nn, is_bn, is_in, is_sn, is_ln, is_tn, is_bb, isn_nn, isn_bn, isn_in, isn_sn, isn_ln, isn_tn, isn_bb, tyD_list, tyD_dict, eq_self, imm_none, imm_bool, imm_int, imm_str, imm_tup, imm_list, imms_nil, imms_cons, inner_list,
  isi_int, isi_bool, isi_tuple, isi_list, isi_str, isi_dict, isInt, isBool, isTup, isLst, isStr, isDic, En.wipe, wipeS, restoreS, dMut, En.mine, En.own, dEnum, dZip, tru_none, tru_bool, tru_int, tru_list, tru_tup, len_list, len_tup, len_dict, PD.add_int, PD.sub_int, int_int, abs_int, le_int, lt_int, gt_int, ge_int, PD.eq_int, PD.ne_int, PD.ne_bool, PD.eq_bool, PD.eq_nil, ix_tup0, ix_tup1, ix_tup2, ix_tup3, ix_list0, ix_list1, tup_list, tup_tup, lst_list, lst_tup, dCallC, notVr, semC,
  Option.bind_some, Option.map_some, Option.bind_none, Option.map_none, List.getElem?_cons_zero, List.getElem?_cons_succ, List.length_cons, List.length_nil, List.map_cons, List.map_nil, List.replicate, List.append_nil, List.nil_append, List.cons_append, List.set_cons_zero, List.set_cons_succ, List.all_cons, List.all_nil, Nat.sub_self, Nat.reduceAdd, Nat.reduceSub, Nat.reduceLT, Nat.reduceEqDiff, List.mem_cons, List.not_mem_nil,  Nat.reduceLeDiff, if_true, if_false, reduceIte, ite_self, Bool.false_eq_true, Bool.not_true, Bool.not_false, decide_true, decide_false, Option.getD_some, Option.getD_none, Bool.true_and, Bool.and_true, Bool.false_and, Bool.and_false, false_and, and_false, true_and, and_true, not_true_eq_false, not_false_eq_true, or_self, or_false, false_or, List.isEmpty_cons, List.isEmpty_nil, Nat.zero_ne_one, *])
/-! ### rectangles and their parts -/
section
variable {T U : Tab} {R C : Nat}
theorem rs_rows (T : Tab) (t l b r m : Nat) : rs T (t, l, m, r) + rs T (m + 1, l, b, r) = rs T (t, l, b, r) := by
  unfold rs
  simp only
  omega
theorem rs_cols (T : Tab) (t l b r m : Nat) : rs T (t, l, b, m) + rs T (t, m + 1, b, r) = rs T (t, l, b, r) := by
  unfold rs
  simp only
  omega
theorem rs_cell (T : Tab) (i j : Nat) : rs T (i, j, i, j) = cell T i j := by
  unfold rs
  simp only
  rw [pre_eq, pre_eq, pre_eq, pre_eq]
  simp only [nsum]
  omega
theorem cell_add {i j : Nat} (hl : T.length = U.length) (hc : ∀ k : Nat, ((T[k]?).getD []).length = ((U[k]?).getD []).length) : cell (addT T U) i j = cell T i j + cell U i j := by
  unfold cell addT
  by_cases hi : i < T.length
  · have hi2 : i < U.length := by omega
    have hk := hc i
    rw [List.getElem?_eq_getElem hi, List.getElem?_eq_getElem hi2, Option.getD_some, Option.getD_some] at hk
    rw [List.getElem?_zipWith, List.getElem?_eq_getElem hi, List.getElem?_eq_getElem hi2]
    simp only [Option.getD_some]
    rw [List.getElem?_zipWith]
    by_cases hj : j < (T[i]).length
    · rw [List.getElem?_eq_getElem hj, List.getElem?_eq_getElem (by omega)]
      rfl
    · rw [List.getElem?_eq_none (by omega), List.getElem?_eq_none (by omega)]
      rfl
  · have t1 : T[i]? = none := List.getElem?_eq_none (by omega)
    have t2 : U[i]? = none := List.getElem?_eq_none (by omega)
    rw [List.getElem?_zipWith, t1, t2]
    rfl
theorem pre_add (hl : T.length = U.length) (hc : ∀ k : Nat, ((T[k]?).getD []).length = ((U[k]?).getD []).length) (i j : Nat) : pre (addT T U) i j = pre T i j + pre U i j := by
  rw [pre_eq, pre_eq, pre_eq, ← nsum_add]
  refine nsum_congr i fun a _ => ?_
  rw [← nsum_add]
  exact nsum_congr j fun b _ => cell_add hl hc
theorem rs_add (h : Drawn T R C) (k : Drawn U R C) (q : Rect) : rs (addT T U) q = rs T q + rs U q := by
  have hl : T.length = U.length := by rw [h.r, k.r]
  have hc : ∀ k : Nat, ((T[k]?).getD []).length = ((U[k]?).getD []).length := fun n => by
    by_cases hn : n < T.length
    · rw [List.getElem?_eq_getElem hn, List.getElem?_eq_getElem (by omega), Option.getD_some, Option.getD_some, h.c _ (List.getElem_mem hn), k.c _ (List.getElem_mem (by omega))]
    · rw [List.getElem?_eq_none (by omega), List.getElem?_eq_none (by omega)]
  unfold rs
  rw [pre_add hl hc, pre_add hl hc, pre_add hl hc, pre_add hl hc]
  omega
theorem Fits.added (h : Drawn T R C) (k : Drawn U R C) (hR : 1 ≤ R ∧ R ≤ 4) (hC : 1 ≤ C ∧ C ≤ 5) : Fits (addT T U) R C := by
  refine ⟨by unfold addT; rw [List.length_zipWith, h.r, k.r, Nat.min_self], fun row hr => ?_, hR.1, by omega, hC.1, hC.2, fun row hr x hx => ?_⟩
  · unfold addT at hr
    obtain ⟨i, hi⟩ := List.mem_iff_getElem?.mp hr
    obtain ⟨a, b, h1, h2, h3⟩ := List.getElem?_zipWith_eq_some.mp hi
    rw [← h3, List.length_zipWith, h.c a (List.mem_of_getElem? h1), k.c b (List.mem_of_getElem? h2), Nat.min_self]
  · unfold addT at hr
    obtain ⟨i, hi⟩ := List.mem_iff_getElem?.mp hr
    obtain ⟨a, b, h1, h2, h3⟩ := List.getElem?_zipWith_eq_some.mp hi
    rw [← h3] at hx
    obtain ⟨j, hj⟩ := List.mem_iff_getElem?.mp hx
    obtain ⟨u, v, k1, k2, k3⟩ := List.getElem?_zipWith_eq_some.mp hj
    have := h.e a (List.mem_of_getElem? h1) u (List.mem_of_getElem? k1)
    have := k.e b (List.mem_of_getElem? h2) v (List.mem_of_getElem? k2)
    rw [← k3]
    show -1000000 ≤ u + v ∧ u + v ≤ 1000000
    omega
/-! ### cut out -/
theorem take_cut (xs : List Int) (l r : Nat) (h : l ≤ r + 1) : ((xs.drop l).take (r + 1 - l)).sum = (xs.take (r + 1)).sum - (xs.take l).sum := by
  have : xs.take (r + 1) = xs.take l ++ (xs.drop l).take (r + 1 - l) := by
    rw [show r + 1 = l + (r + 1 - l) by omega, List.take_add, show l + (r + 1 - l) - l = r + 1 - l by omega]
  rw [this, List.sum_append]
  omega
theorem sum_sub_map (f g : List Int → Int) : ∀ L : Tab, (L.map fun row => f row - g row).sum = (L.map f).sum - (L.map g).sum
  | [] => rfl
  | x :: L => by simp only [List.map_cons, List.sum_cons, sum_sub_map f g L]; omega
theorem rs_cut (T : Tab) {t l b r : Nat} (h1 : t ≤ b) (h3 : l ≤ r) : (((T.drop t).take (b + 1 - t)).map fun row => ((row.drop l).take (r + 1 - l)).sum).sum = rs T (t, l, b, r) := by
  have e : (fun row : List Int => ((row.drop l).take (r + 1 - l)).sum) = fun row => (row.take (r + 1)).sum - (row.take l).sum := funext fun row => take_cut row l r (by omega)
  rw [e, sum_sub_map]
  have k : ∀ F : List Int → Int, (((T.drop t).take (b + 1 - t)).map F).sum = ((T.take (b + 1)).map F).sum - ((T.take t).map F).sum := fun F => by
    have : T.take (b + 1) = T.take t ++ (T.drop t).take (b + 1 - t) := by
      rw [show b + 1 = t + (b + 1 - t) by omega, List.take_add, show t + (b + 1 - t) - t = b + 1 - t by omega]
    rw [this, List.map_append, List.sum_append]
    omega
  rw [k, k]
  unfold rs pre
  simp only
  omega
/-! ### rows and columns -/
def rowsOf (T : Tab) : List Int := T.map List.sum
theorem rs_row (T : Tab) {i : Nat} {row : List Int} (h : T[i]? = some row) (hl : row.length = C) (hC : 1 ≤ C) : rs T (i, 0, i, C - 1) = row.sum := by
  unfold rs
  simp only
  rw [show C - 1 + 1 = C by omega, pre_row h, pre_row h, pre_col0, ← hl, List.take_length]
  have z : (row.take 0).sum = 0 := rfl
  omega
theorem rows_rs (hr : T.length = R) (hc : ∀ row ∈ T, row.length = C) (hC : 1 ≤ C) : rowsOf T = (List.range R).map fun i => rs T (i, 0, i, C - 1) := by
  apply List.ext_getElem?
  intro i
  unfold rowsOf
  rw [List.getElem?_map]
  by_cases hi : i < T.length
  · rw [range_at (by omega), List.getElem?_eq_getElem hi, Option.map_some, rs_row T (List.getElem?_eq_getElem hi) (hc _ (List.getElem_mem hi)) hC]
  · rw [List.getElem?_eq_none (by omega), List.getElem?_eq_none (by simpa using by omega)]
    rfl
theorem sum_rows (hr : T.length = R) (hc : ∀ row ∈ T, row.length = C) (hR : 1 ≤ R) (hC : 1 ≤ C) : (rowsOf T).sum = rs T (0, 0, R - 1, C - 1) := by
  unfold rs
  simp only
  rw [show C - 1 + 1 = C by omega, show R - 1 + 1 = R by omega, pre_col0, pre_zero, pre_zero]
  unfold pre rowsOf
  have e : T.take R = T := by rw [← hr, List.take_length]
  rw [e]
  have : T.map (fun row => (row.take C).sum) = T.map List.sum := List.map_congr_left fun row h => by rw [← hc row h, List.take_length]
  rw [this]
  omega
theorem turn_r (T : Tab) (C : Nat) : (turn T C).length = C := by unfold turn; rw [List.length_map, List.length_range]
theorem turn_c (T : Tab) (C : Nat) : ∀ row ∈ turn T C, row.length = T.length := fun row hr => by
  unfold turn at hr
  obtain ⟨j, _, rfl⟩ := List.mem_map.mp hr
  rw [List.length_map]
theorem sum_columns (hr : T.length = R) (hR : 1 ≤ R) (hC : 1 ≤ C) : (rowsOf (turn T C)).sum = rs T (0, 0, R - 1, C - 1) := by
  rw [sum_rows (turn_r T C) (fun row h => by rw [turn_c T C row h, hr]) hC hR]
  exact rs_turn T hr (q := (0, 0, R - 1, C - 1)) ⟨Nat.zero_le _, by show R - 1 < R; omega, Nat.zero_le _, by show C - 1 < C; omega⟩
theorem row_back {row : List Int} (hl : row.length = C) : (List.range C).map (fun j => (row[j]?).getD 0) = row := by
  apply List.ext_getElem?
  intro j
  by_cases hj : j < C
  · rw [range_at hj, List.getElem?_eq_getElem (by omega), Option.getD_some]
  · rw [List.getElem?_eq_none (by simpa using by omega), List.getElem?_eq_none (by omega)]
theorem turn_turn (hr : T.length = R) (hc : ∀ row ∈ T, row.length = C) : turn (turn T C) R = T := by
  apply List.ext_getElem?
  intro i
  by_cases hi : i < T.length
  · rw [List.getElem?_eq_getElem hi]
    unfold turn
    rw [range_at (by omega), List.map_map]
    congr 1
    refine Eq.trans ?_ (row_back (hc _ (List.getElem_mem hi)))
    refine List.map_congr_left fun j hj => ?_
    show ((T.map fun row => (row[j]?).getD 0)[i]?).getD 0 = _
    rw [List.getElem?_map, List.getElem?_eq_getElem hi]
    rfl
  · have t1 : T[i]? = none := List.getElem?_eq_none (by omega)
    have t2 : (turn (turn T C) R)[i]? = none := List.getElem?_eq_none (by rw [turn_r]; omega)
    rw [t1, t2]
/-! ### row_and_column_sums -/
theorem sum_rowD (row : List Int) : bSum (rowD row) = some (.sh (.int row.sum)) := bSum_intsT row
theorem rows_tup (T : Tab) : bTuple (.list (T.map fun row => PyData.int row.sum)) = some (.sh (rowD (rowsOf T))) := by
  rw [tup_list]
  unfold rowD rowsOf
  rw [List.map_map]
  rfl
theorem col_sum (T : Tab) (C : Nat) : rowsOf (turn T C) = (List.range C).map fun j => (T.map fun row => (row[j]?).getD 0).sum := by
  unfold rowsOf turn
  rw [List.map_map]
  rfl
theorem d_row_and_column_sums (h : Fits T R C) : m_row_and_column_sums [tabD T] = some (false, .tuple [rowD (rowsOf T), rowD (rowsOf (turn T C))]) := by
  have i0 := imm_tab T
  have c1 := d_need_table h
  have hl := h.r
  have hr2 := h.r2
  have hc2 := h.c2
  obtain ⟨r0, rs, ee, l0⟩ := h.row0
  have g0 : bIx (tabD T) (.int 0) = some (.sh (rowD r0)) := by rw [ee]; exact ix_tup0 _ _
  have g1 : bLen (rowD r0) = some (.sh (.int (C : Int))) := by unfold rowD; rw [len_tup, List.length_map, l0]
  have cols : dLc (dRg1 (dB1 bLen (dBin bIx (dVar 0) (dC (.int 0))))) (gN 3) dYes (dB1 bSum (dLc (dItems (dVar 0)) (gN 2) dYes (dBin bIx (dVar 2) (dVar 3)) [2])) [3] ⟨false, [some (.sh (tabD T)), none, none, none]⟩ =
      some (.fr (.list ((List.range C).map fun j => .int (T.map fun row => (row[j]?).getD 0).sum)), ⟨false, [some (.sh (tabD T)), none, none, none]⟩) := by
    refine dLc_sh (emb := fun (y : Nat) => PyData.int (y : Int)) _ (List.range C) (rg1_at (n := C) ?_ (by omega)) (rgD_nat _) (by rw [List.length_range]; omega) fun y hy => ?_
    · clear c1 ee
      walk_at "pd*"
    have hy := List.mem_range.mp hy
    have inn : dLc (dItems (dVar 0)) (gN 2) dYes (dBin bIx (dVar 2) (dVar 3)) [2] ⟨false, [some (.sh (tabD T)), none, none, some (.sh (.int (y : Int)))]⟩ = some (.fr (.list (T.map fun row => .int ((row[y]?).getD 0))), ⟨false, [some (.sh (tabD T)), none, none, some (.sh (.int (y : Int)))]⟩) := by
      refine dLc_sh (emb := rowD) _ T rfl rfl (by omega) fun row hr => ?_
      have hrl := h.c row hr
      have g : bIx (rowD row) (.int (y : Int)) = some (.sh (.int ((row[y]?).getD 0))) := by
        unfold rowD
        refine ix_tupN ?_
        rw [List.getElem?_map, List.getElem?_eq_getElem (by omega)]
        rfl
      clear c1 ee h hr hrl hy
      walk_at "pd*"
    have s := bSum_ints (T.map fun row => (row[y]?).getD 0)
    rw [List.map_map] at s
    exact dB1_at inn s
  have e2 : dSet 1 (dLc (dRg1 (dB1 bLen (dBin bIx (dVar 0) (dC (.int 0))))) (gN 3) dYes (dB1 bSum (dLc (dItems (dVar 0)) (gN 2) dYes (dBin bIx (dVar 2) (dVar 3)) [2])) [3]) ⟨false, [some (.sh (tabD T)), none, none, none]⟩ =
      some (.nx ⟨false, [some (.sh (tabD T)), some (.own (.list ((List.range C).map fun j => .int (T.map fun row => (row[j]?).getD 0).sum))), none, none]⟩) := by
    rw [dSet_fr cols]
    rfl
  have rws : dLc (dItems (dVar 0)) (gN 2) dYes (dB1 bSum (dVar 2)) [2] ⟨false, [some (.sh (tabD T)), some (.own (.list ((List.range C).map fun j => .int (T.map fun row => (row[j]?).getD 0).sum))), none, none]⟩ =
      some (.fr (.list (T.map fun row => .int row.sum)), ⟨false, [some (.sh (tabD T)), some (.own (.list ((List.range C).map fun j => .int (T.map fun row => (row[j]?).getD 0).sum))), none, none]⟩) := by
    refine dLc_sh (emb := rowD) _ T rfl rfl (by omega) fun row hr => ?_
    have s := sum_rowD row
    clear c1 ee h hr cols e2
    walk_at "pd*"
  have t1 := dB1_at rws (rows_tup T)
  have e3 : bTuple (.list ((List.range C).map fun j => PyData.int (T.map fun row => (row[j]?).getD 0).sum)) = some (.sh (rowD (rowsOf (turn T C)))) := by
    rw [tup_list, col_sum]
    unfold rowD
    rw [List.map_map]
    rfl
  have i1 : imm (rowD (rowsOf T)) = true := imm_row _
  have i2 : imm (rowD (rowsOf (turn T C))) = true := imm_row _
  generalize rowsOf T = A at t1 i1 ⊢
  generalize rowsOf (turn T C) = B at e3 i2 ⊢
  have main : dRet (dTup (dCons (dB1 bTuple (dLc (dItems (dVar 0)) (gN 2) dYes (dB1 bSum (dVar 2)) [2])) (dCons (dB1 bTuple (dVar 1)) dNil))) ⟨false, [some (.sh (tabD T)), some (.own (.list ((List.range C).map fun j => .int (T.map fun row => (row[j]?).getD 0).sum))), none, none]⟩ =
      some (.rt (.sh (.tuple [rowD A, rowD B])) ⟨false, [some (.sh (tabD T)), some (.own (.list ((List.range C).map fun j => .int (T.map fun row => (row[j]?).getD 0).sum))), none, none]⟩) := by
    clear c1 ee h cols e2 rws hl hr2 hc2 g0 g1
    generalize dB1 bTuple (dLc (dItems (dVar 0)) (gN 2) dYes (dB1 bSum (dVar 2)) [2]) = X at t1 ⊢
    walk_at "pd*"
  clear rws cols t1 ee h hl hr2 hc2 g0 g1
  unfold m_row_and_column_sums b_row_and_column_sums
  generalize dRet (dTup (dCons (dB1 bTuple (dLc (dItems (dVar 0)) (gN 2) dYes (dB1 bSum (dVar 2)) [2])) (dCons (dB1 bTuple (dVar 1)) dNil))) = X at main ⊢
  generalize dSet 1 (dLc (dRg1 (dB1 bLen (dBin bIx (dVar 0) (dC (.int 0))))) (gN 3) dYes (dB1 bSum (dLc (dItems (dVar 0)) (gN 2) dYes (dBin bIx (dVar 2) (dVar 3)) [2])) [3]) = Y at e2 ⊢
  walk_at "pd*"
end
end PD.K47
set_option Elab.async false
set_option linter.all false
set_option maxRecDepth 100000
set_option maxHeartbeats 4000000
namespace PD.K47
set_option autoImplicit false
open PySem PySem.Spec L2 PD
open PyProof.Rows hiding St
local macro_rules | `(tactic| walk_at "pd") => `(tactic| simp only [dC, dVar, dBin, dCmp_ap, dCmpT, wB, dChainT, dOfT, dTruT, dAndT, dOrT, dNotT, dAndV, dOrV, dNotV, dIf, dNeg, dNil, dCons, gives, give_vr, give_sh, give_fr, get_sh, get_fr, get_vr, En.at, En.with, Sl.d, dTup, dLst, dCut, dNo, dPart, bCut, dNx, dSeq, dIfS, dRet, dRetN, dBk, dCt, dDrop, dStIx, set_l0, set_l1, gN, gCons, gTup, gNil, dSet, dPar, dUnp, settle, puts, En.put, En.set, dItems, dRg1, dRg2, itemsOf, dB1, semOf, slots, endOf, dCall, gets, light_f, light_t, wOf_f, wOf_t, is_nn, is_bn, is_in, is_sn, is_ln, is_tn, is_bb, isn_nn, isn_bn, isn_in, isn_sn, isn_ln, isn_tn, isn_bb, tyD_list, tyD_dict, eq_self, imm_none, imm_bool, imm_int, imm_str, imm_tup, imm_list, imms_nil, imms_cons, inner_list,
  isi_int, isi_bool, isi_tuple, isi_list, isi_str, isi_dict, isInt, isBool, isTup, isLst, isStr, isDic, En.wipe, wipeS, restoreS, dMut, En.mine, En.own, dEnum, dZip, tru_none, tru_bool, tru_int, tru_list, tru_tup, len_list, len_tup, len_dict, PD.add_int, PD.sub_int, int_int, abs_int, le_int, lt_int, gt_int, ge_int, PD.eq_int, PD.ne_int, PD.ne_bool, PD.eq_bool, PD.eq_nil, ix_tup0, ix_tup1, ix_tup2, ix_tup3, ix_list0, ix_list1, tup_list, tup_tup, lst_list, lst_tup, dCallC, notVr, semC,
  Option.bind_some, Option.map_some, Option.bind_none, Option.map_none, List.getElem?_cons_zero, List.getElem?_cons_succ, List.length_cons, List.length_nil, List.map_cons, List.map_nil, List.replicate, List.append_nil, List.nil_append, List.cons_append, List.set_cons_zero, List.set_cons_succ, List.all_cons, List.all_nil, Nat.sub_self, Nat.reduceAdd, Nat.reduceSub, Nat.reduceLT, Nat.reduceEqDiff, List.mem_cons, List.not_mem_nil,  Nat.reduceLeDiff, if_true, if_false, reduceIte, ite_self, Bool.false_eq_true, Bool.not_true, Bool.not_false, decide_true, decide_false, Option.getD_some, Option.getD_none, Bool.true_and, Bool.and_true, Bool.false_and, Bool.and_false, false_and, and_false, true_and, and_true, not_true_eq_false, not_false_eq_true, or_self, or_false, false_or, List.isEmpty_cons, List.isEmpty_nil, Nat.zero_ne_one])
local macro_rules | `(tactic| walk_at "pd*") => `(tactic| simp only [dC, dVar, dBin, dCmp_ap, dCmpT, wB, dChainT, dOfT, dTruT, dAndT, dOrT, dNotT, dAndV, dOrV, dNotV, dIf, dNeg, dNil, dCons, gives, give_vr, give_sh, give_fr, get_sh, get_fr, get_vr, En.at, En.with, Sl.d, dTup, dLst, dCut, dNo, dPart, bCut, dNx, dSeq, dIfS, dRet, dRetN, dBk, dCt, dDrop, dStIx, set_l0, set_l1, gN, gCons, gTup, gNil, dSet, dPar, dUnp, settle, puts, En.put, En.set, dItems, dRg1, dRg2, itemsOf, dB1, semOf, slots, endOf, dCall, gets, light_f, light_t, wOf_f, wOf_t, is_nn, is_bn, is_in, is_sn, is_ln, is_tn, is_bb, isn_nn, isn_bn, isn_in, isn_sn, isn_ln, isn_tn, isn_bb, tyD_list, tyD_dict, eq_self, imm_none, imm_bool, imm_int, imm_str, imm_tup, imm_list, imms_nil, imms_cons, inner_list,
  isi_int, isi_bool, isi_tuple, isi_list, isi_str, isi_dict, isInt, isBool, isTup, isLst, isStr, isDic, En.wipe, wipeS, restoreS, dMut, En.mine, En.own, dEnum, dZip, tru_none, tru_bool, tru_int, tru_list, tru_tup, len_list, len_tup, len_dict, PD.add_int, PD.sub_int, int_int, abs_int, le_int, lt_int, gt_int, ge_int, PD.eq_int, PD.ne_int, PD.ne_bool, PD.eq_bool, PD.eq_nil, ix_tup0, ix_tup1, ix_tup2, ix_tup3, ix_list0, ix_list1, tup_list, tup_tup, lst_list, lst_tup, dCallC, notVr, semC,
  Option.bind_some, Option.map_some, Option.bind_none, Option.map_none, List.getElem?_cons_zero, List.getElem?_cons_succ, List.length_cons, List.length_nil, List.map_cons, List.map_nil, List.replicate, List.append_nil, List.nil_append, List.cons_append, List.set_cons_zero, List.set_cons_succ, List.all_cons, List.all_nil, Nat.sub_self, Nat.reduceAdd, Nat.reduceSub, Nat.reduceLT, Nat.reduceEqDiff, List.mem_cons, List.not_mem_nil,  Nat.reduceLeDiff, if_true, if_false, reduceIte, ite_self, Bool.false_eq_true, Bool.not_true, Bool.not_false, decide_true, decide_false, Option.getD_some, Option.getD_none, Bool.true_and, Bool.and_true, Bool.false_and, Bool.and_false, false_and, and_false, true_and, and_true, not_true_eq_false, not_false_eq_true, or_self, or_false, false_or, List.isEmpty_cons, List.isEmpty_nil, Nat.zero_ne_one, *])
/-! ### _law_parts_right -/
/-- a loop that goes on, from state to state -/
theorem dFor_thr {S : Type} (E : S → En) (I : S → Prop) {fi : DI} {tg : DG} {body : DS} {vs : List Nat} {ds : List D} {s0 : S} (h1 : fi (E s0) = some (ds, E s0)) (i0 : I s0) (h : ∀ d ∈ ds, ∀ s, I s → ∃ s', turnOf tg body vs d (E s) = some (E s') ∧ I s') : ∃ s', dFor fi tg body vs (E s0) = some (.nx (E s')) ∧ I s' := by
  have key : ∀ (ds : List D) (s : S), I s → (∀ d ∈ ds, ∀ s, I s → ∃ s', turnOf tg body vs d (E s) = some (E s') ∧ I s') → ∃ s', forGo tg body vs ds (E s) = some (.nx (E s')) ∧ I s' := by
    intro ds
    induction ds with
    | nil => exact fun s hs _ => ⟨s, rfl, hs⟩
    | cons d ds ih =>
      intro s hs hh
      obtain ⟨s', e, hs'⟩ := hh d List.mem_cons_self s hs
      obtain ⟨s'', e', hs''⟩ := ih s' hs' fun d hd => hh d (List.mem_cons_of_mem _ hd)
      exact ⟨s'', by rw [forGo_turn e, e'], hs''⟩
  obtain ⟨s', e, hs'⟩ := key ds s0 i0 h
  exact ⟨s', by rw [dFor_from h1, e], hs'⟩
theorem zipD_map {α β : Type} (f : α → D) (g : β → D) : ∀ (xs : List α) (ys : List β), zipD (xs.map f) (ys.map g) = (xs.zip ys).map fun p => .tuple [f p.1, g p.2]
  | [], _ => by unfold zipD; rfl
  | _ :: _, [] => by unfold zipD; rfl
  | x :: xs, y :: ys => by
    have ih := zipD_map f g xs ys
    unfold zipD at ih ⊢
    rw [List.map_cons, List.map_cons, List.zipWith_cons_cons, ih]
    rfl
theorem zip_add : ∀ a b : List Int, (a.zip b).map (fun p => PyData.int (p.1 + p.2)) = (List.zipWith (· + ·) a b).map PyData.int
  | [], _ => rfl
  | _ :: _, [] => rfl
  | x :: xs, y :: ys => by
    have ih := zip_add xs ys
    rw [List.zip_cons_cons, List.map_cons, ih]
    rfl
section
variable {T U : Tab} {R C : Nat}
abbrev n18 : List (Option Sl) := [none, none, none, none, none, none, none, none, none, none, none, none, none, none, none, none, none, none]
abbrev eP (T U : Tab) (R C : Nat) (c : D) (ad : List D) (s5 s6 s7 s8 : Option Sl) : En := ⟨true, [some (.own c), some (.sh (tabD T)), some (.sh (tabD U)), some (.own (evD R C)), some (.own (.list ad)), s5, s6, s7, s8, none, none, none, none, none, none, none, none, none, none, none, none, none, none, none, none, none, none]⟩
def addR (T U : Tab) (k : Nat) : List Int := List.zipWith (· + ·) ((T[k]?).getD []) ((U[k]?).getD [])
theorem addT_rows (h : T.length = R) (k : U.length = R) : addT T U = (List.range R).map (addR T U) := by
  apply List.ext_getElem?
  intro i
  unfold addT
  rw [List.getElem?_zipWith]
  by_cases hi : i < R
  · rw [range_at hi, List.getElem?_eq_getElem (by omega), List.getElem?_eq_getElem (by omega)]
    unfold addR
    rw [List.getElem?_eq_getElem (by omega), List.getElem?_eq_getElem (by omega)]
    rfl
  · have t1 : T[i]? = none := List.getElem?_eq_none (by omega)
    have t2 : U[i]? = none := List.getElem?_eq_none (by omega)
    have t3 : ((List.range R).map (addR T U))[i]? = none := List.getElem?_eq_none (by simpa using by omega)
    rw [t1, t2, t3]
theorem add_lc (c : D) (ad : List D) (a b : List Int) (hl : a.length = b.length) (hs : a.length ≤ 5) : dLc (dZip (dCons (dVar 5) (dCons (dVar 6) dNil))) (gTup 2 (gCons (gN 7) (gCons (gN 8) gNil))) dYes (dBin bAdd (dVar 7) (dVar 8)) [7, 8] (eP T U R C c ad (some (.sh (rowD a))) (some (.sh (rowD b))) none none) =
    some (.fr (.list ((List.zipWith (· + ·) a b).map .int)), eP T U R C c ad (some (.sh (rowD a))) (some (.sh (rowD b))) none none) := by
  have fi : dZip (dCons (dVar 5) (dCons (dVar 6) dNil)) (eP T U R C c ad (some (.sh (rowD a))) (some (.sh (rowD b))) none none) = some (zipD (a.map PyData.int) (b.map PyData.int), eP T U R C c ad (some (.sh (rowD a))) (some (.sh (rowD b))) none none) := by
    unfold rowD
    walk_at "pd"
  have := dLc_all (tg := gTup 2 (gCons (gN 7) (gCons (gN 8) gNil))) (fe := dBin bAdd (dVar 7) (dVar 8)) (vs := [7, 8]) (emb := fun p : Int × Int => .tuple [.int p.1, .int p.2]) (E := eP T U R C c ad (some (.sh (rowD a))) (some (.sh (rowD b))) none none) (fun p => PyData.int (p.1 + p.2)) (a.zip b) fi (zipD_map _ _ a b) (by rw [List.length_zip]; omega) rfl (fun p _ => ⟨eP T U R C c ad (some (.sh (rowD a))) (some (.sh (rowD b))) (some (.sh (.int p.1))) (some (.sh (.int p.2))), .sh (.int (p.1 + p.2)), eP T U R C c ad (some (.sh (rowD a))) (some (.sh (rowD b))) (some (.sh (.int p.1))) (some (.sh (.int p.2))), eP T U R C c ad (some (.sh (rowD a))) (some (.sh (rowD b))) (some (.sh (.int p.1))) (some (.sh (.int p.2))), by walk_at "pd", by walk_at "pd", rfl, rfl⟩) rfl
  rw [this, zip_add]
  rfl
theorem add_loop (h : Drawn T R C) (k : Drawn U R C) (hR : 1 ≤ R ∧ R ≤ 4) (hC : 1 ≤ C ∧ C ≤ 5) (c : D) : dFor (dZip (dCons (dVar 1) (dCons (dVar 2) dNil))) (gTup 2 (gCons (gN 5) (gCons (gN 6) gNil))) l1__law_parts_right [5, 6, 7, 8] (eP T U R C c [] none none none none) =
    some (.nx (eP T U R C c ((addT T U).map rowD) none none none none)) := by
  rw [addT_rows h.r k.r, List.map_map]
  refine dFor_at (n := R) (fun i => eP T U R C c ((List.range i).map fun n => rowD (addR T U n)) none none none none) (zipD (T.map rowD) (U.map rowD)) (by simp only [eP, tabD]; walk_at "pd"; rfl) (by unfold zipD; rw [List.length_zipWith, List.length_map, List.length_map, h.r, k.r, Nat.min_self]) fun i d hd => ?_
  obtain ⟨x, y, h1, h2, rfl⟩ := zipD_at hd
  obtain ⟨a, ha, rfl⟩ := map_at h1
  obtain ⟨b, hb, rfl⟩ := map_at h2
  have la := h.c a (List.mem_of_getElem? ha)
  have lb := k.c b (List.mem_of_getElem? hb)
  have hi : i < T.length := (List.getElem?_eq_some_iff.mp ha).1
  have hr := h.r
  have g := add_lc (T := T) (U := U) (R := R) (C := C) c ((List.range i).map fun n => rowD (addR T U n)) a b (by omega) (by omega)
  have ap := app_list (xs := (List.range i).map fun n => rowD (addR T U n)) (.tuple ((List.zipWith (· + ·) a b).map .int)) (by rw [List.length_map, List.length_range]; omega)
  have e : (.tuple ((List.zipWith (· + ·) a b).map .int) : D) = rowD (addR T U i) := by
    unfold addR rowD
    rw [ha, hb]
    rfl
  have ii := imm_row (addR T U i)
  rw [range_last (fun n => rowD (addR T U n)) i, ← e]
  rw [← e] at ii
  generalize (List.range i).map (fun n => rowD (addR T U n)) = A at g ap ⊢
  generalize (List.zipWith (· + ·) a b).map PyData.int = B at g ap ii ⊢
  clear h k hR hC ha hb la lb hd h1 h2 hi hr e
  unfold turnOf l1__law_parts_right
  generalize dLc (dZip (dCons (dVar 5) (dCons (dVar 6) dNil))) (gTup 2 (gCons (gN 7) (gCons (gN 8) gNil))) dYes (dBin bAdd (dVar 7) (dVar 8)) [7, 8] = X at g ⊢
  walk_at "pd*"
end
end PD.K47
set_option Elab.async false
set_option linter.all false
set_option maxRecDepth 100000
set_option maxHeartbeats 4000000
namespace PD.K47
set_option autoImplicit false
open PySem PySem.Spec L2 PD
open PyProof.Rows hiding St
local macro_rules | `(tactic| walk_at "pd") => `(tactic| simp only [dC, dVar, dBin, dCmp_ap, dCmpT, wB, dChainT, dOfT, dTruT, dAndT, dOrT, dNotT, dAndV, dOrV, dNotV, dIf, dNeg, dNil, dCons, gives, give_vr, give_sh, give_fr, get_sh, get_fr, get_vr, En.at, En.with, Sl.d, dTup, dLst, dCut, dNo, dPart, bCut, dNx, dSeq, dIfS, dRet, dRetN, dBk, dCt, dDrop, dStIx, set_l0, set_l1, gN, gCons, gTup, gNil, dSet, dPar, dUnp, settle, puts, En.put, En.set, dItems, dRg1, dRg2, itemsOf, dB1, semOf, slots, endOf, dCall, gets, light_f, light_t, wOf_f, wOf_t, is_nn, is_bn, is_in, is_sn, is_ln, is_tn, is_bb, isn_nn, isn_bn, isn_in, isn_sn, isn_ln, isn_tn, isn_bb, tyD_list, tyD_dict, eq_self, imm_none, imm_bool, imm_int, imm_str, imm_tup, imm_list, imms_nil, imms_cons, inner_list,
  isi_int, isi_bool, isi_tuple, isi_list, isi_str, isi_dict, isInt, isBool, isTup, isLst, isStr, isDic, En.wipe, wipeS, restoreS, dMut, En.mine, En.own, dEnum, dZip, tru_none, tru_bool, tru_int, tru_list, tru_tup, len_list, len_tup, len_dict, PD.add_int, PD.sub_int, int_int, abs_int, le_int, lt_int, gt_int, ge_int, PD.eq_int, PD.ne_int, PD.ne_bool, PD.eq_bool, PD.eq_nil, ix_tup0, ix_tup1, ix_tup2, ix_tup3, ix_list0, ix_list1, tup_list, tup_tup, lst_list, lst_tup, dCallC, notVr, semC,
  Option.bind_some, Option.map_some, Option.bind_none, Option.map_none, List.getElem?_cons_zero, List.getElem?_cons_succ, List.length_cons, List.length_nil, List.map_cons, List.map_nil, List.replicate, List.append_nil, List.nil_append, List.cons_append, List.set_cons_zero, List.set_cons_succ, List.all_cons, List.all_nil, Nat.sub_self, Nat.reduceAdd, Nat.reduceSub, Nat.reduceLT, Nat.reduceEqDiff, List.mem_cons, List.not_mem_nil,  Nat.reduceLeDiff, if_true, if_false, reduceIte, ite_self, Bool.false_eq_true, Bool.not_true, Bool.not_false, decide_true, decide_false, Option.getD_some, Option.getD_none, Bool.true_and, Bool.and_true, Bool.false_and, Bool.and_false, false_and, and_false, true_and, and_true, not_true_eq_false, not_false_eq_true, or_self, or_false, false_or, List.isEmpty_cons, List.isEmpty_nil, Nat.zero_ne_one])
local macro_rules | `(tactic| walk_at "pd*") => `(tactic| simp only [dC, dVar, dBin, dCmp_ap, dCmpT, wB, dChainT, dOfT, dTruT, dAndT, dOrT, dNotT, dAndV, dOrV, dNotV, dIf, dNeg, dNil, dCons, gives, give_vr, give_sh, give_fr, get_sh, get_fr, get_vr, En.at, En.with, Sl.d, dTup, dLst, dCut, dNo, dPart, bCut, dNx, dSeq, dIfS, dRet, dRetN, dBk, dCt, dDrop, dStIx, set_l0, set_l1, gN, gCons, gTup, gNil, dSet, dPar, dUnp, settle, puts, En.put, En.set, dItems, dRg1, dRg2, itemsOf, dB1, semOf, slots, endOf, dCall, gets, light_f, light_t, wOf_f, wOf_t, is_nn, is_bn, is_in, is_sn, is_ln, is_tn, is_bb, isn_nn, isn_bn, isn_in, isn_sn, isn_ln, isn_tn, isn_bb, tyD_list, tyD_dict, eq_self, imm_none, imm_bool, imm_int, imm_str, imm_tup, imm_list, imms_nil, imms_cons, inner_list,
  isi_int, isi_bool, isi_tuple, isi_list, isi_str, isi_dict, isInt, isBool, isTup, isLst, isStr, isDic, En.wipe, wipeS, restoreS, dMut, En.mine, En.own, dEnum, dZip, tru_none, tru_bool, tru_int, tru_list, tru_tup, len_list, len_tup, len_dict, PD.add_int, PD.sub_int, int_int, abs_int, le_int, lt_int, gt_int, ge_int, PD.eq_int, PD.ne_int, PD.ne_bool, PD.eq_bool, PD.eq_nil, ix_tup0, ix_tup1, ix_tup2, ix_tup3, ix_list0, ix_list1, tup_list, tup_tup, lst_list, lst_tup, dCallC, notVr, semC,
  Option.bind_some, Option.map_some, Option.bind_none, Option.map_none, List.getElem?_cons_zero, List.getElem?_cons_succ, List.length_cons, List.length_nil, List.map_cons, List.map_nil, List.replicate, List.append_nil, List.nil_append, List.cons_append, List.set_cons_zero, List.set_cons_succ, List.all_cons, List.all_nil, Nat.sub_self, Nat.reduceAdd, Nat.reduceSub, Nat.reduceLT, Nat.reduceEqDiff, List.mem_cons, List.not_mem_nil,  Nat.reduceLeDiff, if_true, if_false, reduceIte, ite_self, Bool.false_eq_true, Bool.not_true, Bool.not_false, decide_true, decide_false, Option.getD_some, Option.getD_none, Bool.true_and, Bool.and_true, Bool.false_and, Bool.and_false, false_and, and_false, true_and, and_true, not_true_eq_false, not_false_eq_true, or_self, or_false, false_or, List.isEmpty_cons, List.isEmpty_nil, Nat.zero_ne_one, *])
section
variable {T U : Tab} {R C : Nat}
abbrev dI (i : Int) : Option Sl := some (.sh (.int i))
abbrev eQ (T U : Tab) (R C : Nat) (c : D) (i : D) (s10 s11 s12 s13 s14 s15 s16 s17 s18 s19 s20 s21 : Option Sl) : En := ⟨true, [some (.own c), some (.sh (tabD T)), some (.sh (tabD U)), some (.own (evD R C)), some (.own (.list ((addT T U).map rowD))), none, none, none, none, some (.sh i), s10, s11, s12, s13, s14, s15, s16, s17, s18, s19, s20, s21, none, none, none, none, none]⟩
theorem q1 {c c1 i : D} {q : Rect} (hc : Cup c1) (e : m__law_some c [evD R C] = some ((false, rectD q), c1)) : dSet 10 (dCallC m__law_some (dCons (dVar 0) (dCons (dVar 3) dNil))) (eQ T U R C c i none none none none none none none none none none none none) =
    some (.nx (eQ T U R C c1 i (some (.sh (rectD q))) none none none none none none none none none none none)) := by
  have ci := hc.inner
  have i1 := imm_rect q
  have n3 : decide ((3 : Nat) ≠ 0) = true := rfl
  clear hc
  walk_at "pd*"
theorem q2 {c i : D} {t l b r : Nat} : dUnp (gTup 4 (gCons (gN 11) (gCons (gN 12) (gCons (gN 13) (gCons (gN 14) gNil))))) (dVar 10) (eQ T U R C c i (some (.sh (rectD (t, l, b, r)))) none none none none none none none none none none none) =
    some (.nx (eQ T U R C c i (some (.sh (rectD (t, l, b, r)))) (dI t) (dI l) (dI b) (dI r) none none none none none none none)) := by
  unfold rectD
  walk_at "pd"
theorem q3 {c c1 c2 i : D} {t l b r m k : Nat} (h : Fits T R C) (hq : InR R C (t, l, b, r)) {x y : Int} (h1 : Cup c1) (h2 : Cup c2) (e1 : m__law_roll c [.int ((b : Int) - (t : Int) + 1)] = some ((false, .int x), c1)) (e2 : m__law_roll c1 [.int ((r : Int) - (l : Int) + 1)] = some ((false, .int y), c2)) (em : (t : Int) + x = (m : Int)) (ek : (l : Int) + y = (k : Int)) :
    dPar [15, 16, 17] (dCons (dCall m_sum_of (dCons (dVar 1) (dCons (dVar 10) dNil))) (dCons (dBin bAdd (dVar 11) (dCallC m__law_roll (dCons (dVar 0) (dCons (dBin bAdd (dBin bSub (dVar 13) (dVar 11)) (dC (.int 1))) dNil)))) (dCons (dBin bAdd (dVar 12) (dCallC m__law_roll (dCons (dVar 0) (dCons (dBin bAdd (dBin bSub (dVar 14) (dVar 12)) (dC (.int 1))) dNil)))) dNil)))
      (eQ T U R C c i (some (.sh (rectD (t, l, b, r)))) (dI t) (dI l) (dI b) (dI r) none none none none none none none) =
    some (.nx (eQ T U R C c2 i (some (.sh (rectD (t, l, b, r)))) (dI t) (dI l) (dI b) (dI r) (dI (rs T (t, l, b, r))) (dI m) (dI k) none none none none)) := by
  have s1 := d_sum_of h hq
  have ci := h1.inner
  have cj := h2.inner
  have i0 := imm_tab T
  have i1 := imm_rect (t, l, b, r)
  clear h1 h2 h hq
  walk_at "pd*"
abbrev e15 (T U : Tab) (R C : Nat) (c i : D) (t l b r m k : Nat) (s18 s19 s20 s21 : Option Sl) : En := eQ T U R C c i (some (.sh (rectD (t, l, b, r)))) (dI t) (dI l) (dI b) (dI r) (dI (rs T (t, l, b, r))) (dI m) (dI k) s18 s19 s20 s21
theorem q4 {c i : D} {t l b r m k : Nat} (h : Fits T R C) (hq : InR R C (t, l, b, r)) (hm : t ≤ m ∧ m ≤ b) :
    dSet 18 (dBin bAdd (dCall m_sum_of (dCons (dVar 1) (dCons (dTup (dCons (dVar 11) (dCons (dVar 12) (dCons (dVar 16) (dCons (dVar 14) dNil))))) dNil))) (dIf (dCmpT cLt (dVar 16) (dVar 13)) (dCall m_sum_of (dCons (dVar 1) (dCons (dTup (dCons (dBin bAdd (dVar 16) (dC (.int 1))) (dCons (dVar 12) (dCons (dVar 13) (dCons (dVar 14) dNil))))) dNil))) (dC (.int 0)))) (e15 T U R C c i t l b r m k none none none none) =
    some (.nx (e15 T U R C c i t l b r m k (dI (rs T (t, l, b, r))) none none none)) := by
  obtain ⟨h1, h2, h3, h4⟩ := hq
  have h1 : t ≤ b := h1
  have h2 : b < R := h2
  have h3 : l ≤ r := h3
  have h4 : r < C := h4
  have i0 := imm_tab T
  have s1 := d_sum_of h (q := (t, l, m, r)) ⟨hm.1, by show m < R; omega, h3, h4⟩
  by_cases hb : m < b
  · have s2 := d_sum_of h (q := (m + 1, l, b, r)) ⟨by show m + 1 ≤ b; omega, h2, h3, h4⟩
    have e : (((m + 1 : Nat)) : Int) = (m : Int) + 1 := by omega
    have k1 : decide ((m : Int) < (b : Int)) = true := decide_eq_true (by omega)
    have rr := rs_rows T t l b r m
    unfold rectD at s1 s2
    simp only [e] at s2
    clear h h1 h2 h3 h4 hm hb e
    walk_at "pd*"
  · have k1 : decide ((m : Int) < (b : Int)) = false := decide_eq_false (by omega)
    obtain rfl : m = b := by omega
    have z : rs T (t, l, m, r) + 0 = rs T (t, l, m, r) := by omega
    unfold rectD at s1
    clear h h1 h2 h3 h4 hm hb
    walk_at "pd*"
theorem q5 {c i : D} {t l b r m k : Nat} {s18 : Int} (h : Fits T R C) (hq : InR R C (t, l, b, r)) (hm : l ≤ k ∧ k ≤ r) :
    dSet 19 (dBin bAdd (dCall m_sum_of (dCons (dVar 1) (dCons (dTup (dCons (dVar 11) (dCons (dVar 12) (dCons (dVar 13) (dCons (dVar 17) dNil))))) dNil))) (dIf (dCmpT cLt (dVar 17) (dVar 14)) (dCall m_sum_of (dCons (dVar 1) (dCons (dTup (dCons (dVar 11) (dCons (dBin bAdd (dVar 17) (dC (.int 1))) (dCons (dVar 13) (dCons (dVar 14) dNil))))) dNil))) (dC (.int 0)))) (e15 T U R C c i t l b r m k (dI s18) none none none) =
    some (.nx (e15 T U R C c i t l b r m k (dI s18) (dI (rs T (t, l, b, r))) none none)) := by
  obtain ⟨h1, h2, h3, h4⟩ := hq
  have h1 : t ≤ b := h1
  have h2 : b < R := h2
  have h3 : l ≤ r := h3
  have h4 : r < C := h4
  have i0 := imm_tab T
  have s1 := d_sum_of h (q := (t, l, b, k)) ⟨h1, h2, hm.1, by show k < C; omega⟩
  by_cases hb : k < r
  · have s2 := d_sum_of h (q := (t, k + 1, b, r)) ⟨h1, h2, by show k + 1 ≤ r; omega, h4⟩
    have e : (((k + 1 : Nat)) : Int) = (k : Int) + 1 := by omega
    have k1 : decide ((k : Int) < (r : Int)) = true := decide_eq_true (by omega)
    have rr := rs_cols T t l b r k
    unfold rectD at s1 s2
    simp only [e] at s2
    clear h h1 h2 h3 h4 hm hb e
    walk_at "pd*"
  · have k1 : decide ((k : Int) < (r : Int)) = false := decide_eq_false (by omega)
    obtain rfl : k = r := by omega
    have z : rs T (t, l, b, k) + 0 = rs T (t, l, b, k) := by omega
    unfold rectD at s1
    clear h h1 h2 h3 h4 hm hb
    walk_at "pd*"
theorem dCut_at {fa : DE} {fl fu : DO} {ρ ρ1 ρ2 ρ3 : En} {w u : W} {a : D} {lo hi : Option Int} (h1 : fa ρ = some (w, ρ1)) (h2 : fl ρ1 = some (lo, ρ2)) (h3 : fu ρ2 = some (hi, ρ3)) (h5 : bCut a lo hi = some u) (h4 : w.get ρ3 = some a := by rfl) : dCut fa fl fu ρ = some (u, ρ3) := by
  unfold dCut
  rw [h1, Option.bind_some]
  simp only
  rw [h2, Option.bind_some]
  simp only
  rw [h3, Option.bind_some]
  simp only
  rw [h4, Option.bind_some, h5]
  rfl
theorem dItems_at {fa : DE} {ρ ρ1 : En} {d : D} {ds : List D} (h1 : fa ρ = some (.sh d, ρ1)) (h2 : itemsOf d = some ds) : dItems fa ρ = some (ds, ρ1) := by
  unfold dItems
  rw [h1, Option.bind_some]
  simp only [give_sh, Option.bind_some, h2, Option.map_some]
theorem cut_map {α : Type} (f : α → D) (xs : List α) {t b : Nat} (h1 : t ≤ b) (h2 : b < xs.length) : cutD (xs.map f) (some (t : Int)) (some ((b : Int) + 1)) = ((xs.drop t).take (b + 1 - t)).map f := by
  unfold cutD
  rw [show (b : Int) + 1 = ((b + 1 : Nat) : Int) by omega, HT.sIx_nat, HT.sIx_nat, List.length_map, Nat.min_eq_left (by omega), Nat.min_eq_left (by omega), List.map_take, List.map_drop]
theorem q6 {c i : D} {t l b r m k : Nat} {s18 s19 : Int} (h : Fits T R C) (hq : InR R C (t, l, b, r)) :
    dSet 20 (dB1 bSum (dLc (dItems (dCut (dVar 1) (dPart (dVar 11)) (dPart (dBin bAdd (dVar 13) (dC (.int 1)))))) (gN 5) dYes (dB1 bSum (dCut (dVar 5) (dPart (dVar 12)) (dPart (dBin bAdd (dVar 14) (dC (.int 1)))))) [5])) (e15 T U R C c i t l b r m k (dI s18) (dI s19) none none) =
    some (.nx (e15 T U R C c i t l b r m k (dI s18) (dI s19) (dI (rs T (t, l, b, r))) none)) := by
  obtain ⟨h1, h2, h3, h4⟩ := hq
  have h1 : t ≤ b := h1
  have h2 : b < R := h2
  have h3 : l ≤ r := h3
  have h4 : r < C := h4
  have hl := h.r
  have hr2 := h.r2
  have b1 : bCut (tabD T) (some (t : Int)) (some ((b : Int) + 1)) = some (.sh (tabD ((T.drop t).take (b + 1 - t)))) := by
    unfold tabD
    show some (W.sh (.tuple (cutD _ _ _))) = _
    rw [cut_map rowD T h1 (by omega)]
  have fi : dItems (dCut (dVar 1) (dPart (dVar 11)) (dPart (dBin bAdd (dVar 13) (dC (.int 1))))) (e15 T U R C c i t l b r m k (dI s18) (dI s19) none none) = some (((T.drop t).take (b + 1 - t)).map rowD, e15 T U R C c i t l b r m k (dI s18) (dI s19) none none) := by
    exact dItems_at (dCut_at rfl rfl rfl b1) rfl
  have lc : dLc (dItems (dCut (dVar 1) (dPart (dVar 11)) (dPart (dBin bAdd (dVar 13) (dC (.int 1)))))) (gN 5) dYes (dB1 bSum (dCut (dVar 5) (dPart (dVar 12)) (dPart (dBin bAdd (dVar 14) (dC (.int 1)))))) [5] (e15 T U R C c i t l b r m k (dI s18) (dI s19) none none) =
      some (.fr (.list (((T.drop t).take (b + 1 - t)).map fun row => .int ((row.drop l).take (r + 1 - l)).sum)), e15 T U R C c i t l b r m k (dI s18) (dI s19) none none) := by
    refine dLc_sh (emb := rowD) _ _ fi rfl (by rw [List.length_take, List.length_drop]; omega) fun row hrow => ?_
    have hrl := h.c row (List.mem_of_mem_drop (List.mem_of_mem_take hrow))
    have b2 : bCut (rowD row) (some (l : Int)) (some ((r : Int) + 1)) = some (.sh (rowD ((row.drop l).take (r + 1 - l)))) := by
      unfold rowD
      show some (W.sh (.tuple (cutD _ _ _))) = _
      rw [cut_map PyData.int row h3 (by omega)]
    have s1 := sum_rowD ((row.drop l).take (r + 1 - l))
    exact dB1_at (dCut_at rfl rfl rfl b2) s1
  have s2 := bSum_ints (((T.drop t).take (b + 1 - t)).map fun row => ((row.drop l).take (r + 1 - l)).sum)
  rw [List.map_map, rs_cut T h1 h3] at s2
  rw [dSet_sh (dB1_at lc s2)]
  rfl
theorem q7 {c i : D} {t l b r m k : Nat} {s18 s19 s20 : Int} (h : Fits T R C) (ha : Fits (addT T U) R C) (hq : InR R C (t, l, b, r)) (hm : t ≤ m ∧ m ≤ b) (hk : l ≤ k ∧ k ≤ r) :
    dSet 21 (dLst (dCons (dVar 18) (dCons (dVar 19) (dCons (dCall m_sum_of (dCons (dB1 bTuple (dVar 4)) (dCons (dVar 10) dNil))) (dCons (dCall m_sum_of (dCons (dVar 1) (dCons (dTup (dCons (dVar 16) (dCons (dVar 17) (dCons (dVar 16) (dCons (dVar 17) dNil))))) dNil))) dNil))))) (e15 T U R C c i t l b r m k (dI s18) (dI s19) (dI s20) none) =
    some (.nx (e15 T U R C c i t l b r m k (dI s18) (dI s19) (dI s20) (some (.own (.list [.int s18, .int s19, .int (rs (addT T U) (t, l, b, r)), .int (cell T m k)]))))) := by
  obtain ⟨h1, h2, h3, h4⟩ := hq
  have h1 : t ≤ b := h1
  have h2 : b < R := h2
  have h3 : l ≤ r := h3
  have h4 : r < C := h4
  have i0 := imm_tab T
  have i1 := imm_rect (t, l, b, r)
  have i2 : imms ((addT T U).map rowD) = true := imm_tab (addT T U)
  have s1 : m_sum_of [.tuple ((addT T U).map rowD), rectD (t, l, b, r)] = some (false, .int (rs (addT T U) (t, l, b, r))) := d_sum_of ha (q := (t, l, b, r)) ⟨h1, h2, h3, h4⟩
  have s2 := d_sum_of h (q := (m, k, m, k)) ⟨Nat.le_refl _, by show m < R; omega, Nat.le_refl _, by show k < C; omega⟩
  rw [rs_cell] at s2
  generalize rs (addT T U) (t, l, b, r) = z at s1 ⊢
  have s2' : m_sum_of [tabD T, .tuple [.int (m : Int), .int (k : Int), .int (m : Int), .int (k : Int)]] = some (false, .int (cell T m k)) := s2
  clear h ha h1 h2 h3 h4 hm hk s2
  walk_at "pd*"
end
end PD.K47
set_option Elab.async false
set_option linter.all false
set_option maxRecDepth 100000
set_option maxHeartbeats 4000000
namespace PD.K47
set_option autoImplicit false
open PySem PySem.Spec L2 PD
open PyProof.Rows hiding St
local macro_rules | `(tactic| walk_at "pd") => `(tactic| simp only [dC, dVar, dBin, dCmp_ap, dCmpT, wB, dChainT, dOfT, dTruT, dAndT, dOrT, dNotT, dAndV, dOrV, dNotV, dIf, dNeg, dNil, dCons, gives, give_vr, give_sh, give_fr, get_sh, get_fr, get_vr, En.at, En.with, Sl.d, dTup, dLst, dCut, dNo, dPart, bCut, dNx, dSeq, dIfS, dRet, dRetN, dBk, dCt, dDrop, dStIx, set_l0, set_l1, gN, gCons, gTup, gNil, dSet, dPar, dUnp, settle, puts, En.put, En.set, dItems, dRg1, dRg2, itemsOf, dB1, semOf, slots, endOf, dCall, gets, light_f, light_t, wOf_f, wOf_t, is_nn, is_bn, is_in, is_sn, is_ln, is_tn, is_bb, isn_nn, isn_bn, isn_in, isn_sn, isn_ln, isn_tn, isn_bb, tyD_list, tyD_dict, eq_self, imm_none, imm_bool, imm_int, imm_str, imm_tup, imm_list, imms_nil, imms_cons, inner_list,
  isi_int, isi_bool, isi_tuple, isi_list, isi_str, isi_dict, isInt, isBool, isTup, isLst, isStr, isDic, En.wipe, wipeS, restoreS, dMut, En.mine, En.own, dEnum, dZip, tru_none, tru_bool, tru_int, tru_list, tru_tup, len_list, len_tup, len_dict, PD.add_int, PD.sub_int, int_int, abs_int, le_int, lt_int, gt_int, ge_int, PD.eq_int, PD.ne_int, PD.ne_bool, PD.eq_bool, PD.eq_nil, ix_tup0, ix_tup1, ix_tup2, ix_tup3, ix_list0, ix_list1, tup_list, tup_tup, lst_list, lst_tup, dCallC, notVr, semC,
  Option.bind_some, Option.map_some, Option.bind_none, Option.map_none, List.getElem?_cons_zero, List.getElem?_cons_succ, List.length_cons, List.length_nil, List.map_cons, List.map_nil, List.replicate, List.append_nil, List.nil_append, List.cons_append, List.set_cons_zero, List.set_cons_succ, List.all_cons, List.all_nil, Nat.sub_self, Nat.reduceAdd, Nat.reduceSub, Nat.reduceLT, Nat.reduceEqDiff, List.mem_cons, List.not_mem_nil,  Nat.reduceLeDiff, if_true, if_false, reduceIte, ite_self, Bool.false_eq_true, Bool.not_true, Bool.not_false, decide_true, decide_false, Option.getD_some, Option.getD_none, Bool.true_and, Bool.and_true, Bool.false_and, Bool.and_false, false_and, and_false, true_and, and_true, not_true_eq_false, not_false_eq_true, or_self, or_false, false_or, List.isEmpty_cons, List.isEmpty_nil, Nat.zero_ne_one])
local macro_rules | `(tactic| walk_at "pd*") => `(tactic| simp only [dC, dVar, dBin, dCmp_ap, dCmpT, wB, dChainT, dOfT, dTruT, dAndT, dOrT, dNotT, dAndV, dOrV, dNotV, dIf, dNeg, dNil, dCons, gives, give_vr, give_sh, give_fr, get_sh, get_fr, get_vr, En.at, En.with, Sl.d, dTup, dLst, dCut, dNo, dPart, bCut, dNx, dSeq, dIfS, dRet, dRetN, dBk, dCt, dDrop, dStIx, set_l0, set_l1, gN, gCons, gTup, gNil, dSet, dPar, dUnp, settle, puts, En.put, En.set, dItems, dRg1, dRg2, itemsOf, dB1, semOf, slots, endOf, dCall, gets, light_f, light_t, wOf_f, wOf_t, is_nn, is_bn, is_in, is_sn, is_ln, is_tn, is_bb, isn_nn, isn_bn, isn_in, isn_sn, isn_ln, isn_tn, isn_bb, tyD_list, tyD_dict, eq_self, imm_none, imm_bool, imm_int, imm_str, imm_tup, imm_list, imms_nil, imms_cons, inner_list,
  isi_int, isi_bool, isi_tuple, isi_list, isi_str, isi_dict, isInt, isBool, isTup, isLst, isStr, isDic, En.wipe, wipeS, restoreS, dMut, En.mine, En.own, dEnum, dZip, tru_none, tru_bool, tru_int, tru_list, tru_tup, len_list, len_tup, len_dict, PD.add_int, PD.sub_int, int_int, abs_int, le_int, lt_int, gt_int, ge_int, PD.eq_int, PD.ne_int, PD.ne_bool, PD.eq_bool, PD.eq_nil, ix_tup0, ix_tup1, ix_tup2, ix_tup3, ix_list0, ix_list1, tup_list, tup_tup, lst_list, lst_tup, dCallC, notVr, semC,
  Option.bind_some, Option.map_some, Option.bind_none, Option.map_none, List.getElem?_cons_zero, List.getElem?_cons_succ, List.length_cons, List.length_nil, List.map_cons, List.map_nil, List.replicate, List.append_nil, List.nil_append, List.cons_append, List.set_cons_zero, List.set_cons_succ, List.all_cons, List.all_nil, Nat.sub_self, Nat.reduceAdd, Nat.reduceSub, Nat.reduceLT, Nat.reduceEqDiff, List.mem_cons, List.not_mem_nil,  Nat.reduceLeDiff, if_true, if_false, reduceIte, ite_self, Bool.false_eq_true, Bool.not_true, Bool.not_false, decide_true, decide_false, Option.getD_some, Option.getD_none, Bool.true_and, Bool.and_true, Bool.false_and, Bool.and_false, false_and, and_false, true_and, and_true, not_true_eq_false, not_false_eq_true, or_self, or_false, false_or, List.isEmpty_cons, List.isEmpty_nil, Nat.zero_ne_one, *])
section
variable {T U : Tab} {R C : Nat}
theorem q8 {c i : D} {t l b r m k : Nat} (h : Fits T R C) (hu : Fits U R C) (hq : InR R C (t, l, b, r)) (hin : (t, l, b, r) ∈ rects R C) (hm : t ≤ m ∧ m ≤ b) (hk : l ≤ k ∧ k ≤ r) {w u x : Int} (hw : rs T (t, l, b, r) = w) (hv : rs U (t, l, b, r) = u) (hx : cell T m k = x) :
    dIfS (dOrT (dNotT (dTruT (dCall (m__law_same 8) (dCons (dVar 21) (dCons (dLst (dCons (dVar 15) (dCons (dVar 15) (dCons (dBin bAdd (dVar 15) (dCall m_sum_of (dCons (dVar 2) (dCons (dVar 10) dNil)))) (dCons (dBin bIx (dBin bIx (dVar 1) (dVar 16)) (dVar 17)) dNil))))) dNil))))) (dOrT (dCmpT cNe (dVar 15) (dVar 20)) (dCmpT cGt (dVar 15) (dBin bIx (dCall m_greatest_sum (dCons (dVar 1) dNil)) (dC (.int 0)))))) (dRet (dC (.bool false))) dNx
      (e15 T U R C c i t l b r m k (dI w) (dI w) (dI w) (some (.own (.list [.int w, .int w, .int (w + u), .int x])))) =
    some (.nx (e15 T U R C c i t l b r m k (dI w) (dI w) (dI w) (some (.own (.list [.int w, .int w, .int (w + u), .int x]))))) := by
  obtain ⟨h1, h2, h3, h4⟩ := hq
  have h1 : t ≤ b := h1
  have h2 : b < R := h2
  have h3 : l ≤ r := h3
  have h4 : r < C := h4
  have i0 := imm_tab T
  have i1 := imm_rect (t, l, b, r)
  have i2 := imm_tab U
  have s1 := d_sum_of hu (q := (t, l, b, r)) ⟨h1, h2, h3, h4⟩
  rw [hv] at s1
  have hl := h.r
  obtain ⟨row, hrow, hrl, hmem⟩ := h.get (i := m) (by omega)
  have g1 : bIx (tabD T) (.int (m : Int)) = some (.sh (rowD row)) := by
    unfold tabD
    refine ix_tupN ?_
    rw [List.getElem?_map, hrow]
    rfl
  have g2 : bIx (rowD row) (.int (k : Int)) = some (.sh (.int x)) := by
    unfold rowD
    refine ix_tupN ?_
    have : row[k]? = some row[k] := List.getElem?_eq_getElem (by omega)
    rw [List.getElem?_map, this, ← hx, cell_at hrow this]
    rfl
  obtain ⟨p, e0, hp, hpm, _⟩ := best_ok T (rects R C) (by
    intro z
    rw [z] at hin
    cases hin)
  have g3 := d_greatest_sum h
  rw [e0, bestD_some] at g3
  have le := hpm _ hin
  rw [hw] at le
  have k1 : decide (rs T p < w) = false := decide_eq_false (by omega)
  have s8 := same8 (d := .list [.int w, .int w, .int (w + u), .int x]) (by
    rw [plain_list]
    simp only [List.all_cons, List.all_nil, plain_int, Bool.and_true, List.length_cons, List.length_nil]
    rfl)
  have i3 := imm_rect p
  simp only [e15, hw]
  clear h hu hin hm hk hw hv hx h1 h2 h3 h4 hl hrow hrl hmem e0 hp hpm le
  walk_at "pd*"
theorem one_part (h : Drawn T R C) (k : Drawn U R C) (hR : 1 ≤ R ∧ R ≤ 4) (hC : 1 ≤ C ∧ C ≤ 5) {c i : D} (hc : Cup c) :
    ∃ c', turnOf (gN 9) l2__law_parts_right [5, 9, 10, 11, 12, 13, 14, 15, 16, 17, 18, 19, 20, 21] i (eP T U R C c ((addT T U).map rowD) none none none none) = some (eP T U R C c' ((addT T U).map rowD) none none none none) ∧ Cup c' := by
  have hf := h.fits hR hC
  have hu := k.fits hR hC
  have ha := Fits.added h k hR hC
  have hlen := len_rects hf.r2 hf.c2
  have hne : 0 < (rects R C).length := List.length_pos_iff.mpr (rects_ne hR.1 hC.1)
  obtain ⟨c1, n, d, e1, hc1, hd⟩ := d_some hc (xs := (rects R C).map rectD) (by rw [List.length_map]; exact hne) (by rw [List.length_map]; omega)
  obtain ⟨⟨t, l, b, r⟩, hq, rfl⟩ := map_at hd
  have hin := List.mem_of_getElem? hq
  have hI := rects_in hin
  obtain ⟨h1, h2, h3, h4⟩ := hI
  have h1 : t ≤ b := h1
  have h2 : b < R := h2
  have h3 : l ≤ r := h3
  have h4 : r < C := h4
  obtain ⟨c2, x, e2, hc2, x0, x1⟩ := d_roll hc1 (n := (b : Int) - (t : Int) + 1) (by omega) (by omega)
  obtain ⟨c3, y, e3, hc3, y0, y1⟩ := d_roll hc2 (n := (r : Int) - (l : Int) + 1) (by omega) (by omega)
  obtain ⟨m, em⟩ : ∃ m : Nat, (t : Int) + x = (m : Int) := ⟨((t : Int) + x).toNat, by omega⟩
  obtain ⟨j, ej⟩ : ∃ j : Nat, (l : Int) + y = (j : Int) := ⟨((l : Int) + y).toNat, by omega⟩
  have hm : t ≤ m ∧ m ≤ b := by omega
  have hk : l ≤ j ∧ j ≤ r := by omega
  have hI : InR R C (t, l, b, r) := ⟨h1, h2, h3, h4⟩
  have s7 := q7 (T := T) (U := U) (c := c3) (i := i) (s18 := rs T (t, l, b, r)) (s19 := rs T (t, l, b, r)) (s20 := rs T (t, l, b, r)) hf ha hI hm hk
  rw [rs_add h k] at s7
  have step : l2__law_parts_right (eQ T U R C c i none none none none none none none none none none none none) = some (.nx (e15 T U R C c3 i t l b r m j (dI (rs T (t, l, b, r))) (dI (rs T (t, l, b, r))) (dI (rs T (t, l, b, r))) (some (.own (.list [.int (rs T (t, l, b, r)), .int (rs T (t, l, b, r)), .int (rs T (t, l, b, r) + rs U (t, l, b, r)), .int (cell T m j)]))))) := by
    unfold l2__law_parts_right
    rw [dSeq_nx (q1 hc1 e1), dSeq_nx q2, dSeq_nx (q3 hf hI hc2 hc3 e2 e3 em ej), dSeq_nx (q4 hf hI hm), dSeq_nx (q5 hf hI hk), dSeq_nx (q6 hf hI), dSeq_nx s7]
    exact q8 hf hu hI hin hm hk rfl rfl rfl
  exact ⟨c3, turn_gN step rfl, hc3⟩
theorem p1 (h : Fits T R C) (c : D) : dPar [3, 4] (dCons (dCall m__law_rectangles (dCons (dB1 bLen (dVar 1)) (dCons (dB1 bLen (dBin bIx (dVar 1) (dC (.int 0)))) dNil))) (dCons (dLst dNil) dNil)) ⟨true, some (.own c) :: slots [tabD T, tabD U] 26⟩ = some (.nx (eP T U R C c [] none none none none)) := by
  obtain ⟨r0, rs, ee, l0⟩ := h.row0
  have hl := h.r
  have g0 : bIx (tabD T) (.int 0) = some (.sh (rowD r0)) := by rw [ee]; exact ix_tup0 _ _
  have g1 : bLen (rowD r0) = some (.sh (.int (C : Int))) := by unfold rowD; rw [len_tup, List.length_map, l0]
  have g2 : bLen (tabD T) = some (.sh (.int (R : Int))) := by unfold tabD; rw [len_tup, List.length_map, hl]
  have a2 := d_law_rectangles h.r2 h.c2
  clear h hl ee l0
  walk_at "pd*"
abbrev eZ (T U : Tab) (R C : Nat) (c : D) (s22 s23 s24 s25 s26 : Option Sl) : En := ⟨true, [some (.own c), some (.sh (tabD T)), some (.sh (tabD U)), some (.own (evD R C)), some (.own (.list ((addT T U).map rowD))), none, none, none, none, none, none, none, none, none, none, none, none, none, none, none, none, none, s22, s23, s24, s25, s26]⟩
theorem p4 (h : Fits T R C) (c : D) : dUnp (gTup 2 (gCons (gN 22) (gCons (gN 23) gNil))) (dCall m_row_and_column_sums (dCons (dVar 1) dNil)) (eZ T U R C c none none none none none) = some (.nx (eZ T U R C c (some (.sh (rowD (rowsOf T)))) (some (.sh (rowD (rowsOf (turn T C))))) none none none)) := by
  have c1 := d_row_and_column_sums h
  have i0 := imm_tab T
  have i1 : imm (rowD (rowsOf T)) = true := imm_row _
  have i2 : imm (rowD (rowsOf (turn T C))) = true := imm_row _
  generalize rowsOf (turn T C) = B at c1 i2 ⊢
  generalize rowsOf T = A at c1 i1 ⊢
  clear h
  walk_at "pd*"
theorem p5 (h : Fits T R C) (c : D) {A B : List Int} {s : Int} (hs : rs T (0, 0, R - 1, C - 1) = s) : dSet 24 (dCall m_sum_of (dCons (dVar 1) (dCons (dTup (dCons (dC (.int 0)) (dCons (dC (.int 0)) (dCons (dBin bSub (dB1 bLen (dVar 1)) (dC (.int 1))) (dCons (dBin bSub (dB1 bLen (dBin bIx (dVar 1) (dC (.int 0)))) (dC (.int 1))) dNil))))) dNil))) (eZ T U R C c (some (.sh (rowD A))) (some (.sh (rowD B))) none none none) =
    some (.nx (eZ T U R C c (some (.sh (rowD A))) (some (.sh (rowD B))) (dI s) none none)) := by
  obtain ⟨r0, rs', ee, l0⟩ := h.row0
  have hl := h.r
  have g0 : bIx (tabD T) (.int 0) = some (.sh (rowD r0)) := by rw [ee]; exact ix_tup0 _ _
  have g1 : bLen (rowD r0) = some (.sh (.int (C : Int))) := by unfold rowD; rw [len_tup, List.length_map, l0]
  have g2 : bLen (tabD T) = some (.sh (.int (R : Int))) := by unfold tabD; rw [len_tup, List.length_map, hl]
  have r1 := h.r1
  have k1 := h.c1
  have i0 := imm_tab T
  have s1 : m_sum_of [tabD T, .tuple [.int 0, .int 0, .int ((R : Int) - 1), .int ((C : Int) - 1)]] = some (false, .int s) := by
    have := d_sum_of h (q := (0, 0, R - 1, C - 1)) ⟨Nat.zero_le _, by show R - 1 < R; omega, Nat.zero_le _, by show C - 1 < C; omega⟩
    unfold rectD at this
    rw [hs] at this
    simp only at this
    rw [show ((R - 1 : Nat) : Int) = (R : Int) - 1 by omega, show ((C - 1 : Nat) : Int) = (C : Int) - 1 by omega] at this
    exact this
  clear h hl ee l0 hs r1 k1
  walk_at "pd*"
theorem p6 (h : Fits T R C) (c : D) {A B : List Int} {s : Int} (hA : rowsOf T = A) : dSet 25 (dB1 bTuple (dLc (dRg1 (dB1 bLen (dVar 1))) (gN 16) dYes (dCall m_sum_of (dCons (dVar 1) (dCons (dTup (dCons (dVar 16) (dCons (dC (.int 0)) (dCons (dVar 16) (dCons (dBin bSub (dB1 bLen (dBin bIx (dVar 1) (dC (.int 0)))) (dC (.int 1))) dNil))))) dNil))) [16])) (eZ T U R C c (some (.sh (rowD A))) (some (.sh (rowD B))) (dI s) none none) =
    some (.nx (eZ T U R C c (some (.sh (rowD A))) (some (.sh (rowD B))) (dI s) (some (.sh (rowD A))) none)) := by
  obtain ⟨r0, rs', ee, l0⟩ := h.row0
  have hl := h.r
  have hr2 := h.r2
  have g0 : bIx (tabD T) (.int 0) = some (.sh (rowD r0)) := by rw [ee]; exact ix_tup0 _ _
  have g1 : bLen (rowD r0) = some (.sh (.int (C : Int))) := by unfold rowD; rw [len_tup, List.length_map, l0]
  have g2 : bLen (tabD T) = some (.sh (.int (R : Int))) := by unfold tabD; rw [len_tup, List.length_map, hl]
  have k1 := h.c1
  have i0 := imm_tab T
  have lc : dLc (dRg1 (dB1 bLen (dVar 1))) (gN 16) dYes (dCall m_sum_of (dCons (dVar 1) (dCons (dTup (dCons (dVar 16) (dCons (dC (.int 0)) (dCons (dVar 16) (dCons (dBin bSub (dB1 bLen (dBin bIx (dVar 1) (dC (.int 0)))) (dC (.int 1))) dNil))))) dNil))) [16] (eZ T U R C c (some (.sh (rowD A))) (some (.sh (rowD B))) (dI s) none none) =
      some (.fr (.list ((List.range R).map fun i => .int (rs T (i, 0, i, C - 1)))), eZ T U R C c (some (.sh (rowD A))) (some (.sh (rowD B))) (dI s) none none) := by
    refine dLc_sh (emb := fun (y : Nat) => PyData.int (y : Int)) _ (List.range R) (rg1_at (n := R) ?_ (by omega)) (rgD_nat _) (by rw [List.length_range]; omega) fun y hy => ?_
    · clear ee hA h
      walk_at "pd*"
    have hy := List.mem_range.mp hy
    have s1 : m_sum_of [tabD T, .tuple [.int (y : Int), .int 0, .int (y : Int), .int ((C : Int) - 1)]] = some (false, .int (rs T (y, 0, y, C - 1))) := by
      have := d_sum_of h (q := (y, 0, y, C - 1)) ⟨Nat.le_refl _, hy, Nat.zero_le _, by show C - 1 < C; omega⟩
      unfold rectD at this
      simp only at this
      rw [show ((C - 1 : Nat) : Int) = (C : Int) - 1 by omega] at this
      exact this
    generalize rs T (y, 0, y, C - 1) = z at s1
    clear h hl ee l0 k1 hA hy hr2
    walk_at "pd*"
  have e : bTuple (.list ((List.range R).map fun i => PyData.int (rs T (i, 0, i, C - 1)))) = some (.sh (rowD A)) := by
    rw [tup_list, ← hA, rows_rs h.r h.c h.c1]
    unfold rowD
    rw [List.map_map]
    rfl
  rw [dSet_sh (dB1_at lc e)]
  rfl
theorem p7 (h : Fits T R C) (c : D) {A B : List Int} {s : Int} : dSet 26 (dB1 bTuple (dLc (dRg1 (dB1 bLen (dBin bIx (dVar 1) (dC (.int 0))))) (gN 17) dYes (dB1 bTuple (dLc (dItems (dVar 1)) (gN 5) dYes (dBin bIx (dVar 5) (dVar 17)) [5])) [17])) (eZ T U R C c (some (.sh (rowD A))) (some (.sh (rowD B))) (dI s) (some (.sh (rowD A))) none) =
    some (.nx (eZ T U R C c (some (.sh (rowD A))) (some (.sh (rowD B))) (dI s) (some (.sh (rowD A))) (some (.sh (tabD (turn T C)))))) := by
  have hc2 := h.c2
  obtain ⟨r0, rs', ee, l0⟩ := h.row0
  have g0 : bIx (tabD T) (.int 0) = some (.sh (rowD r0)) := by rw [ee]; exact ix_tup0 _ _
  have g1 : bLen (rowD r0) = some (.sh (.int (C : Int))) := by unfold rowD; rw [len_tup, List.length_map, l0]
  rw [dSet_sh (turn_lc h (rg1_at (n := C) (by
    clear h ee l0 hc2
    walk_at "pd*") (by omega)) rfl (by decide) (by decide) (by decide) rfl rfl rfl rfl)]
  rfl
theorem p8 (h : Drawn T R C) (hR : 1 ≤ R ∧ R ≤ 4) (hC : 1 ≤ C ∧ C ≤ 5) (c : D) {s : Int} (hs : rs T (0, 0, R - 1, C - 1) = s) : dRet (dCall (m__law_same 8) (dCons (dLst (dCons (dB1 bSum (dVar 22)) (dCons (dB1 bSum (dVar 23)) (dCons (dVar 22) (dCons (dCall m_row_and_column_sums (dCons (dVar 26) dNil)) dNil))))) (dCons (dLst (dCons (dVar 24) (dCons (dVar 24) (dCons (dVar 25) (dCons (dTup (dCons (dVar 23) (dCons (dVar 22) dNil))) dNil))))) dNil)))
      (eZ T U R C c (some (.sh (rowD (rowsOf T)))) (some (.sh (rowD (rowsOf (turn T C))))) (dI s) (some (.sh (rowD (rowsOf T)))) (some (.sh (tabD (turn T C))))) =
    some (.rt (.sh (.bool true)) (eZ T U R C c (some (.sh (rowD (rowsOf T)))) (some (.sh (rowD (rowsOf (turn T C))))) (dI s) (some (.sh (rowD (rowsOf T)))) (some (.sh (tabD (turn T C)))))) := by
  have c1 := d_row_and_column_sums (Fits.turn h hR hC)
  rw [turn_turn h.r h.c] at c1
  have a1 := sum_rowD (rowsOf T)
  rw [sum_rows h.r h.c hR.1 hC.1, hs] at a1
  have a2 := sum_rowD (rowsOf (turn T C))
  rw [sum_columns h.r hR.1 hC.1, hs] at a2
  have i0 := imm_tab (turn T C)
  have lA : (rowsOf T).length ≤ 100000 := by
    have := h.r
    unfold rowsOf
    rw [List.length_map]
    omega
  have lB : (rowsOf (turn T C)).length ≤ 100000 := by
    unfold rowsOf
    rw [List.length_map, turn_r]
    omega
  generalize rowsOf (turn T C) = B at c1 a2 lB ⊢
  generalize rowsOf T = A at c1 a1 lA ⊢
  have i1 : imm (rowD A) = true := imm_row _
  have i2 : imm (rowD B) = true := imm_row _
  have pr : ∀ (n : Nat) (A : List Int), A.length ≤ 100000 → plainD (n + 2) (rowD A) = true := fun n A hA => by
    unfold rowD
    rw [plain_tup, Bool.and_eq_true]
    refine ⟨List.all_eq_true.mpr fun d hd => ?_, decide_eq_true (by rw [List.length_map]; exact hA)⟩
    obtain ⟨z, _, rfl⟩ := List.mem_map.mp hd
    rfl
  have pA : ∀ n, plainD (n + 2) (rowD A) = true := fun n => pr n A lA
  have pB : ∀ n, plainD (n + 2) (rowD B) = true := fun n => pr n B lB
  have s8 := same8 (d := .list [.int s, .int s, rowD A, .tuple [rowD B, rowD A]]) (by
    rw [plain_list]
    simp only [List.all_cons, List.all_nil, plain_int, plain_tup, pA, pB, Bool.and_true, List.length_cons, List.length_nil]
    rfl)
  clear h hR hC hs lA lB pr pA pB
  walk_at "pd*"
theorem d_parts_right (h : Drawn T R C) (k : Drawn U R C) (hR : 1 ≤ R ∧ R ≤ 4) (hC : 1 ≤ C ∧ C ≤ 5) {c : D} (hc : Cup c) : ∃ c', m__law_parts_right c [tabD T, tabD U] = some ((false, .bool true), c') ∧ Cup c' := by
  have hf := h.fits hR hC
  obtain ⟨c', e, hc'⟩ := dFor_thr (fun c => eP T U R C c ((addT T U).map rowD) none none none none) Cup (fi := dRg1 (dC (.int 6))) (tg := gN 9) (body := l2__law_parts_right) (vs := [5, 9, 10, 11, 12, 13, 14, 15, 16, 17, 18, 19, 20, 21]) (ds := rgD 0 6) (s0 := c) (rg1_at (n := 6) rfl (by decide)) hc fun d _ s hs => one_part h k hR hC hs
  have s1 := p1 (U := U) hf c
  have s2 := add_loop h k hR hC c
  have s4 := p4 (U := U) hf c'
  have s5 := p5 (U := U) hf c' (A := rowsOf T) (B := rowsOf (turn T C)) rfl
  have s6 := p6 (U := U) hf c' (A := rowsOf T) (B := rowsOf (turn T C)) (s := rs T (0, 0, R - 1, C - 1)) rfl
  have s7 := p7 (U := U) hf c' (A := rowsOf T) (B := rowsOf (turn T C)) (s := rs T (0, 0, R - 1, C - 1))
  have s8 := p8 (U := U) h hR hC c' rfl
  have main : b__law_parts_right ⟨true, some (.own c) :: slots [tabD T, tabD U] 26⟩ = some (.rt (.sh (.bool true)) (eZ T U R C c' (some (.sh (rowD (rowsOf T)))) (some (.sh (rowD (rowsOf (turn T C))))) (dI (rs T (0, 0, R - 1, C - 1))) (some (.sh (rowD (rowsOf T)))) (some (.sh (tabD (turn T C)))))) := by
    unfold b__law_parts_right
    rw [dSeq_nx s1, dSeq_nx s2, dSeq_nx e, dSeq_nx s4, dSeq_nx s5, dSeq_nx s6, dSeq_nx s7, s8]
  refine ⟨c', ?_, hc'⟩
  unfold m__law_parts_right
  rw [if_pos (show [tabD T, tabD U].length + 1 = 3 from rfl)]
  unfold semC
  rw [main]
  rfl
end
end PD.K47
set_option Elab.async false
set_option linter.all false
set_option maxRecDepth 100000
set_option maxHeartbeats 4000000
namespace PD.K47
set_option autoImplicit false
open PySem PySem.Spec L2 PD
open PyProof.Rows hiding St
local macro_rules | `(tactic| walk_at "pd") => `(tactic| simp only [dC, dVar, dBin, dCmp_ap, dCmpT, wB, dChainT, dOfT, dTruT, dAndT, dOrT, dNotT, dAndV, dOrV, dNotV, dIf, dNeg, dNil, dCons, gives, give_vr, give_sh, give_fr, get_sh, get_fr, get_vr, En.at, En.with, Sl.d, dTup, dLst, dCut, dNo, dPart, bCut, dNx, dSeq, dIfS, dRet, dRetN, dBk, dCt, dDrop, dStIx, set_l0, set_l1, gN, gCons, gTup, gNil, dSet, dPar, dUnp, settle, puts, En.put, En.set, dItems, dRg1, dRg2, itemsOf, dB1, semOf, slots, endOf, dCall, gets, light_f, light_t, wOf_f, wOf_t, is_nn, is_bn, is_in, is_sn, is_ln, is_tn, is_bb, isn_nn, isn_bn, isn_in, isn_sn, isn_ln, isn_tn, isn_bb, tyD_list, tyD_dict, eq_self, imm_none, imm_bool, imm_int, imm_str, imm_tup, imm_list, imms_nil, imms_cons, inner_list,
  isi_int, isi_bool, isi_tuple, isi_list, isi_str, isi_dict, isInt, isBool, isTup, isLst, isStr, isDic, En.wipe, wipeS, restoreS, dMut, En.mine, En.own, dEnum, dZip, tru_none, tru_bool, tru_int, tru_list, tru_tup, len_list, len_tup, len_dict, PD.add_int, PD.sub_int, int_int, abs_int, le_int, lt_int, gt_int, ge_int, PD.eq_int, PD.ne_int, PD.ne_bool, PD.eq_bool, PD.eq_nil, ix_tup0, ix_tup1, ix_tup2, ix_tup3, ix_list0, ix_list1, tup_list, tup_tup, lst_list, lst_tup, dCallC, notVr, semC,
  Option.bind_some, Option.map_some, Option.bind_none, Option.map_none, List.getElem?_cons_zero, List.getElem?_cons_succ, List.length_cons, List.length_nil, List.map_cons, List.map_nil, List.replicate, List.append_nil, List.nil_append, List.cons_append, List.set_cons_zero, List.set_cons_succ, List.all_cons, List.all_nil, Nat.sub_self, Nat.reduceAdd, Nat.reduceSub, Nat.reduceLT, Nat.reduceEqDiff, List.mem_cons, List.not_mem_nil,  Nat.reduceLeDiff, if_true, if_false, reduceIte, ite_self, Bool.false_eq_true, Bool.not_true, Bool.not_false, decide_true, decide_false, Option.getD_some, Option.getD_none, Bool.true_and, Bool.and_true, Bool.false_and, Bool.and_false, false_and, and_false, true_and, and_true, not_true_eq_false, not_false_eq_true, or_self, or_false, false_or, List.isEmpty_cons, List.isEmpty_nil, Nat.zero_ne_one])
local macro_rules | `(tactic| walk_at "pd*") => `(tactic| simp only [dC, dVar, dBin, dCmp_ap, dCmpT, wB, dChainT, dOfT, dTruT, dAndT, dOrT, dNotT, dAndV, dOrV, dNotV, dIf, dNeg, dNil, dCons, gives, give_vr, give_sh, give_fr, get_sh, get_fr, get_vr, En.at, En.with, Sl.d, dTup, dLst, dCut, dNo, dPart, bCut, dNx, dSeq, dIfS, dRet, dRetN, dBk, dCt, dDrop, dStIx, set_l0, set_l1, gN, gCons, gTup, gNil, dSet, dPar, dUnp, settle, puts, En.put, En.set, dItems, dRg1, dRg2, itemsOf, dB1, semOf, slots, endOf, dCall, gets, light_f, light_t, wOf_f, wOf_t, is_nn, is_bn, is_in, is_sn, is_ln, is_tn, is_bb, isn_nn, isn_bn, isn_in, isn_sn, isn_ln, isn_tn, isn_bb, tyD_list, tyD_dict, eq_self, imm_none, imm_bool, imm_int, imm_str, imm_tup, imm_list, imms_nil, imms_cons, inner_list,
  isi_int, isi_bool, isi_tuple, isi_list, isi_str, isi_dict, isInt, isBool, isTup, isLst, isStr, isDic, En.wipe, wipeS, restoreS, dMut, En.mine, En.own, dEnum, dZip, tru_none, tru_bool, tru_int, tru_list, tru_tup, len_list, len_tup, len_dict, PD.add_int, PD.sub_int, int_int, abs_int, le_int, lt_int, gt_int, ge_int, PD.eq_int, PD.ne_int, PD.ne_bool, PD.eq_bool, PD.eq_nil, ix_tup0, ix_tup1, ix_tup2, ix_tup3, ix_list0, ix_list1, tup_list, tup_tup, lst_list, lst_tup, dCallC, notVr, semC,
  Option.bind_some, Option.map_some, Option.bind_none, Option.map_none, List.getElem?_cons_zero, List.getElem?_cons_succ, List.length_cons, List.length_nil, List.map_cons, List.map_nil, List.replicate, List.append_nil, List.nil_append, List.cons_append, List.set_cons_zero, List.set_cons_succ, List.all_cons, List.all_nil, Nat.sub_self, Nat.reduceAdd, Nat.reduceSub, Nat.reduceLT, Nat.reduceEqDiff, List.mem_cons, List.not_mem_nil,  Nat.reduceLeDiff, if_true, if_false, reduceIte, ite_self, Bool.false_eq_true, Bool.not_true, Bool.not_false, decide_true, decide_false, Option.getD_some, Option.getD_none, Bool.true_and, Bool.and_true, Bool.false_and, Bool.and_false, false_and, and_false, true_and, and_true, not_true_eq_false, not_false_eq_true, or_self, or_false, false_or, List.isEmpty_cons, List.isEmpty_nil, Nat.zero_ne_one, *])
/-! ### _law_alike_right -/
def constT (R C : Nat) : Tab := List.replicate R (List.replicate C 1)
theorem drawn_const (R C : Nat) : Drawn (constT R C) R C :=
  ⟨by unfold constT; rw [List.length_replicate], fun row hr => by rw [(List.mem_replicate.mp hr).2, List.length_replicate], fun row hr x hx => by
    rw [(List.mem_replicate.mp hr).2] at hx
    rw [(List.mem_replicate.mp hx).2]
    omega⟩
theorem times_times (a b : Int) (T : Tab) : times a (times b T) = times (a * b) T := by
  unfold times
  rw [List.map_map]
  refine List.map_congr_left fun row _ => ?_
  show List.map _ (List.map _ row) = _
  rw [List.map_map]
  exact List.map_congr_left fun x _ => (Int.mul_assoc a b x).symm
theorem tab_const (R C : Nat) (n : Int) : tabD (times n (constT R C)) = .tuple (List.replicate R (.tuple (List.replicate C (.int n)))) := by
  unfold tabD times constT rowD
  simp only [List.map_replicate, Int.mul_one]
def dueI (R C m : Int) : Nat → Int
  | 0 => 0
  | i + 1 => dueI R C m i + if m / (1 + (i : Int)) * (1 + (i : Int)) = m ∧ m / (1 + (i : Int)) ≤ C then (R - (1 + (i : Int)) + 1) * (C - m / (1 + (i : Int)) + 1) else 0
theorem due_cnt : ∀ R ∈ ([1, 2, 3, 4] : List Nat), ∀ C ∈ ([1, 2, 3, 4, 5] : List Nat), ∀ m ∈ ([1, 2, 4, 6, (R : Int) * (C : Int)] : List Int), (cnt (constT R C) (rects R C) m : Int) = dueI R C m R := by decide +kernel
theorem best_pos : ∀ R ∈ ([1, 2, 3, 4] : List Nat), ∀ C ∈ ([1, 2, 3, 4, 5] : List Nat), (rects R C).foldl (beats (constT R C)) none = some (0, 0, R - 1, C - 1) ∧ rs (constT R C) (0, 0, R - 1, C - 1) = (R : Int) * (C : Int) := by decide +kernel
theorem best_neg : ∀ R ∈ ([1, 2, 3, 4] : List Nat), ∀ C ∈ ([1, 2, 3, 4, 5] : List Nat), (rects R C).foldl (beats (times (-1) (constT R C))) none = some (0, 0, 0, 0) ∧ rs (constT R C) (0, 0, 0, 0) = 1 := by decide +kernel
section
variable {R C : Nat}
theorem great_pos (hR : 1 ≤ R ∧ R ≤ 4) (hC : 1 ≤ C ∧ C ≤ 5) {n : Int} (hn : 0 < n ∧ n ≤ 100) : m_greatest_sum [tabD (times n (constT R C))] = some (false, .tuple [.int ((R : Int) * (C : Int) * n), .tuple [.int 0, .int 0, .int ((R : Int) - 1), .int ((C : Int) - 1)]]) := by
  obtain ⟨b1, b2⟩ := best_pos R (in4 hR) C (in5 hC)
  rw [d_greatest_sum ((drawn_const R C).times hR hC (k := n) (by omega)), best_times hn.1, b1, bestD_some, rs_times, b2, Int.mul_comm]
  unfold rectD
  simp only
  rw [show ((R - 1 : Nat) : Int) = (R : Int) - 1 by omega, show ((C - 1 : Nat) : Int) = (C : Int) - 1 by omega]
  rfl
theorem great_neg (hR : 1 ≤ R ∧ R ≤ 4) (hC : 1 ≤ C ∧ C ≤ 5) {n : Int} (hn : -100 ≤ n ∧ n < 0) : m_greatest_sum [tabD (times n (constT R C))] = some (false, .tuple [.int n, .tuple [.int 0, .int 0, .int 0, .int 0]]) := by
  obtain ⟨b1, b2⟩ := best_neg R (in4 hR) C (in5 hC)
  have e : times n (constT R C) = times (-n) (times (-1) (constT R C)) := by rw [times_times, show -n * -1 = n by omega]
  rw [d_greatest_sum ((drawn_const R C).times hR hC (k := n) (by omega))]
  have : (rects R C).foldl (beats (times n (constT R C))) none = some (0, 0, 0, 0) := by rw [e, best_times (by omega), b1]
  rw [this, bestD_some, rs_times, b2, Int.mul_one]
  rfl
abbrev eA (R C : Nat) (n : Int) (s4 s5 s6 s7 : Option Sl) : En := ⟨false, [dI R, dI C, dI n, some (.sh (tabD (times n (constT R C)))), s4, s5, s6, s7, none]⟩
theorem due_loop (hR : 1 ≤ R ∧ R ≤ 4) (hC : 1 ≤ C ∧ C ≤ 5) {n m : Int} (hm : 1 ≤ m ∧ m ≤ 20) : dFor (dRg2 (dC (.int 1)) (dBin bAdd (dVar 0) (dC (.int 1)))) (gN 6) l1__law_alike_right [6, 7] (eA R C n (dI m) (dI 0) none none) = some (.nx (eA R C n (dI m) (dI (dueI R C m R)) none none)) := by
  refine dFor_at (n := R) (fun i => eA R C n (dI m) (dI (dueI R C m i)) none none) (rgD 1 R) ?_ (rgD_len _ _) fun i d hd => ?_
  · have := rg2_at (fa := dC (.int 1)) (fb := dBin bAdd (dVar 0) (dC (.int 1))) (ρ := eA R C n (dI m) (dI 0) none none) (a := 1) (b := (R : Int) + 1) (ρ1 := eA R C n (dI m) (dI 0) none none) (ρ2 := eA R C n (dI m) (dI 0) none none) rfl rfl ⟨by omega, by omega⟩ ⟨by omega, by omega⟩
    rw [show ((R : Int) + 1 - 1).toNat = R by omega] at this
    exact this
  · obtain ⟨hi, rfl⟩ := rgD_at hd
    have h1 : (0 : Int) < 1 + (i : Int) := by omega
    have d1 : bDiv (.int m) (.int (1 + (i : Int))) = some (.sh (.int (m / (1 + (i : Int))))) := PD.div_int ⟨h1, by omega⟩
    have m1 : bMul (.int (m / (1 + (i : Int)))) (.int (1 + (i : Int))) = some (.sh (.int (m / (1 + (i : Int)) * (1 + (i : Int))))) := PD.mul_int (.inr ⟨by omega, by omega⟩)
    have m2 : bMul (.int ((R : Int) - (1 + (i : Int)) + 1)) (.int ((C : Int) - m / (1 + (i : Int)) + 1)) = some (.sh (.int (((R : Int) - (1 + (i : Int)) + 1) * ((C : Int) - m / (1 + (i : Int)) + 1)))) := PD.mul_int (.inl ⟨by omega, by omega⟩)
    show _ = some (eA R C n (dI m) (dI (dueI R C m i + if m / (1 + (i : Int)) * (1 + (i : Int)) = m ∧ m / (1 + (i : Int)) ≤ C then (R - (1 + (i : Int)) + 1) * (C - m / (1 + (i : Int)) + 1) else 0)) none none)
    generalize dueI R C m i = z
    generalize m / (1 + (i : Int)) = w at d1 m1 m2 ⊢
    generalize 1 + (i : Int) = u at d1 m1 m2 ⊢
    clear hm hR hC hd hi h1
    by_cases c1 : w * u = m
    · have k1 : decide (w * u = m) = true := decide_eq_true c1
      by_cases c2 : w ≤ (C : Int)
      · have k2 : decide (w ≤ (C : Int)) = true := decide_eq_true c2
        rw [if_pos ⟨c1, c2⟩]
        clear c1 c2
        refine turn_gN (ρ2 := eA R C n (dI m) (dI (z + ((R : Int) - u + 1) * ((C : Int) - w + 1))) (dI u) (dI w)) ?_ rfl
        unfold l1__law_alike_right
        walk_at "pd*"
      · have k2 : decide (w ≤ (C : Int)) = false := decide_eq_false c2
        rw [if_neg fun y => c2 y.2, Int.add_zero]
        clear c1 c2
        refine turn_gN (ρ2 := eA R C n (dI m) (dI z) (dI u) (dI w)) ?_ rfl
        unfold l1__law_alike_right
        walk_at "pd*"
    · have k1 : decide (w * u = m) = false := decide_eq_false c1
      rw [if_neg fun y => c1 y.1, Int.add_zero]
      clear c1
      refine turn_gN (ρ2 := eA R C n (dI m) (dI z) (dI u) (dI w)) ?_ rfl
      unfold l1__law_alike_right
      walk_at "pd*"
theorem one_many (hR : 1 ≤ R ∧ R ≤ 4) (hC : 1 ≤ C ∧ C ≤ 5) {n m : Int} (hn : n ≠ 0 ∧ -100 ≤ n ∧ n ≤ 100) (hm : m ∈ ([1, 2, 4, 6, (R : Int) * (C : Int)] : List Int)) (hb : 1 ≤ m ∧ m ≤ 20) :
    l2__law_alike_right (eA R C n (dI m) none none none) = some (.nx (eA R C n (dI m) (dI (dueI R C m R)) none none)) := by
  have g := due_loop hR hC (n := n) hb
  have m1 : bMul (.int m) (.int n) = some (.sh (.int (m * n))) := PD.mul_int (.inl ⟨by omega, by omega⟩)
  have hmn : -2000 ≤ m * n ∧ m * n ≤ 2000 := by
    have : m = 1 ∨ m = 2 ∨ m = 3 ∨ m = 4 ∨ m = 5 ∨ m = 6 ∨ m = 7 ∨ m = 8 ∨ m = 9 ∨ m = 10 ∨ m = 11 ∨ m = 12 ∨ m = 13 ∨ m = 14 ∨ m = 15 ∨ m = 16 ∨ m = 17 ∨ m = 18 ∨ m = 19 ∨ m = 20 := by omega
    rcases this with rfl | rfl | rfl | rfl | rfl | rfl | rfl | rfl | rfl | rfl | rfl | rfl | rfl | rfl | rfl | rfl | rfl | rfl | rfl | rfl <;> omega
  have c1 := d_cnt ((drawn_const R C).times hR hC (k := n) (by omega)) (n := m * n) (by omega)
  have e : cnt (times n (constT R C)) (rects R C) (m * n) = cnt (constT R C) (rects R C) m := cnt_same fun q _ => by
    rw [rs_times, Int.mul_comm m n]
    exact ⟨fun z => Int.eq_of_mul_eq_mul_left hn.1 z, fun z => by rw [z]⟩
  rw [e, due_cnt R (in4 hR) C (in5 hC) m hm] at c1
  have s1 := same8 (d := .int (dueI R C m R)) rfl
  have i0 := imm_tab (times n (constT R C))
  unfold l2__law_alike_right
  clear hR hC hn hm hb hmn e
  generalize dFor (dRg2 (dC (.int 1)) (dBin bAdd (dVar 0) (dC (.int 1)))) (gN 6) l1__law_alike_right [6, 7] = X at g ⊢
  generalize dueI R C m R = z at g c1 s1 ⊢
  walk_at "pd*"
theorem mul_le_20 (hR : 1 ≤ R ∧ R ≤ 4) (hC : 1 ≤ C ∧ C ≤ 5) : 1 ≤ (R : Int) * (C : Int) ∧ (R : Int) * (C : Int) ≤ 20 := by
  obtain ⟨h1, h2⟩ := hR
  have : R = 1 ∨ R = 2 ∨ R = 3 ∨ R = 4 := by omega
  rcases this with rfl | rfl | rfl | rfl <;> omega
theorem flat_tup {α : Type} (x : α) (n : Nat) : (List.replicate n [x]).flatten = List.replicate n x := flat_one x n
theorem d_alike_right (hR : 1 ≤ R ∧ R ≤ 4) (hC : 1 ≤ C ∧ C ≤ 5) {n : Int} (hn : n ≠ 0 ∧ -100 ≤ n ∧ n ≤ 100) : m__law_alike_right [.int (R : Int), .int (C : Int), .int n] = some (false, .bool true) := by
  have hb := mul_le_20 hR hC
  have i0 := imm_tab (times n (constT R C))
  have s1 : dSet 3 (dBin bMul (dTup (dCons (dBin bMul (dTup (dCons (dVar 2) dNil)) (dVar 1)) dNil)) (dVar 0)) ⟨false, slots [.int (R : Int), .int (C : Int), .int n] 9⟩ = some (.nx (eA R C n none none none none)) := by
    have m1 : bMul (.tuple [.int n]) (.int (C : Int)) = some (.sh (.tuple (List.replicate C (.int n)))) := by
      rw [PD.mul_tup ⟨by omega, by omega, by simp only [List.length_cons, List.length_nil]; omega, List.cons_ne_nil _ _⟩, flat_tup, Int.toNat_natCast]
    have m2 : bMul (.tuple [.tuple (List.replicate C (.int n))]) (.int (R : Int)) = some (.sh (tabD (times n (constT R C)))) := by
      rw [PD.mul_tup ⟨by omega, by omega, by simp only [List.length_cons, List.length_nil]; omega, List.cons_ne_nil _ _⟩, flat_tup, Int.toNat_natCast, tab_const]
    simp only [eA]
    generalize tabD (times n (constT R C)) = A at m2 ⊢
    generalize List.replicate C (PyData.int n) = B at m1 m2
    clear hR hC hn hb i0
    walk_at "pd*"
  have s2 : dFor (dItems (dTup (dCons (dC (.int 1)) (dCons (dC (.int 2)) (dCons (dC (.int 4)) (dCons (dC (.int 6)) (dCons (dBin bMul (dVar 0) (dVar 1)) dNil))))))) (gN 4) l2__law_alike_right [4, 5, 6, 7] (eA R C n none none none none) = some (.nx (eA R C n none none none none)) := by
    refine dFor_at (n := 5) (fun _ => eA R C n none none none none) (([1, 2, 4, 6, (R : Int) * (C : Int)] : List Int).map .int) ?_ rfl fun i d hd => ?_
    · have m1 : bMul (.int (R : Int)) (.int (C : Int)) = some (.sh (.int ((R : Int) * (C : Int)))) := PD.mul_int (.inl ⟨by omega, by omega⟩)
      clear hR hC hn hb i0 s1
      walk_at "pd*"
    · obtain ⟨m, e, rfl⟩ := map_at hd
      have hm := List.mem_of_getElem? e
      have hb2 : 1 ≤ m ∧ m ≤ 20 := by
        have := hm
        simp only [List.mem_cons, List.not_mem_nil, or_false] at this
        omega
      exact turn_gN (one_many hR hC hn hm hb2) rfl
  have s3 : ∃ ρ, dSeq (dSet 8 (dIf (dCmpT cGt (dVar 2) (dC (.int 0))) (dTup (dCons (dBin bMul (dBin bMul (dVar 0) (dVar 1)) (dVar 2)) (dCons (dTup (dCons (dC (.int 0)) (dCons (dC (.int 0)) (dCons (dBin bSub (dVar 0) (dC (.int 1))) (dCons (dBin bSub (dVar 1) (dC (.int 1))) dNil))))) dNil))) (dTup (dCons (dVar 2) (dCons (dTup (dCons (dC (.int 0)) (dCons (dC (.int 0)) (dCons (dC (.int 0)) (dCons (dC (.int 0)) dNil))))) dNil))))) (dRet (dCall (m__law_same 8) (dCons (dCall m_greatest_sum (dCons (dVar 3) dNil)) (dCons (dVar 8) dNil)))) (eA R C n none none none none) = some (.rt (.sh (.bool true)) ρ) := by
    have m1 : bMul (.int (R : Int)) (.int (C : Int)) = some (.sh (.int ((R : Int) * (C : Int)))) := PD.mul_int (.inl ⟨by omega, by omega⟩)
    have m2 : bMul (.int ((R : Int) * (C : Int))) (.int n) = some (.sh (.int ((R : Int) * (C : Int) * n))) := PD.mul_int (.inl ⟨by omega, by omega⟩)
    by_cases hp : 0 < n
    · have g := great_pos hR hC (n := n) ⟨hp, by omega⟩
      have k1 : decide ((0 : Int) < n) = true := decide_eq_true hp
      have s8 := same8 (d := .tuple [.int ((R : Int) * (C : Int) * n), .tuple [.int 0, .int 0, .int ((R : Int) - 1), .int ((C : Int) - 1)]]) rfl
      refine ⟨⟨false, [dI R, dI C, dI n, some (.sh (tabD (times n (constT R C)))), none, none, none, none, some (.sh (.tuple [.int ((R : Int) * (C : Int) * n), .tuple [.int 0, .int 0, .int ((R : Int) - 1), .int ((C : Int) - 1)]]))]⟩, ?_⟩
      clear hR hC hn hb hp s1 s2
      walk_at "pd*"
    · have g := great_neg hR hC (n := n) ⟨by omega, by omega⟩
      have k1 : decide ((0 : Int) < n) = false := decide_eq_false hp
      have s8 := same8 (d := .tuple [.int n, .tuple [.int 0, .int 0, .int 0, .int 0]]) rfl
      refine ⟨⟨false, [dI R, dI C, dI n, some (.sh (tabD (times n (constT R C)))), none, none, none, none, some (.sh (.tuple [.int n, .tuple [.int 0, .int 0, .int 0, .int 0]]))]⟩, ?_⟩
      clear hR hC hn hb hp s1 s2
      walk_at "pd*"
  obtain ⟨ρ, s3⟩ := s3
  have main : b__law_alike_right ⟨false, slots [.int (R : Int), .int (C : Int), .int n] 9⟩ = some (.rt (.sh (.bool true)) ρ) := by
    unfold b__law_alike_right
    rw [dSeq_nx s1, dSeq_nx s2, s3]
  unfold m__law_alike_right
  rw [if_pos (show [PyData.int (R : Int), .int (C : Int), .int n].length = 3 from rfl)]
  unfold semOf
  rw [main]
  rfl
end
end PD.K47
set_option Elab.async false
set_option linter.all false
set_option maxRecDepth 100000
set_option maxHeartbeats 4000000
namespace PD.K47
set_option autoImplicit false
open PySem PySem.Spec L2 PD
open PyProof.Rows hiding St
local macro_rules | `(tactic| walk_at "pd") => `(tactic| simp only [dC, dVar, dBin, dCmp_ap, dCmpT, wB, dChainT, dOfT, dTruT, dAndT, dOrT, dNotT, dAndV, dOrV, dNotV, dIf, dNeg, dNil, dCons, gives, give_vr, give_sh, give_fr, get_sh, get_fr, get_vr, En.at, En.with, Sl.d, dTup, dLst, dCut, dNo, dPart, bCut, dNx, dSeq, dIfS, dRet, dRetN, dBk, dCt, dDrop, dStIx, set_l0, set_l1, gN, gCons, gTup, gNil, dSet, dPar, dUnp, settle, puts, En.put, En.set, dItems, dRg1, dRg2, itemsOf, dB1, semOf, slots, endOf, dCall, gets, light_f, light_t, wOf_f, wOf_t, is_nn, is_bn, is_in, is_sn, is_ln, is_tn, is_bb, isn_nn, isn_bn, isn_in, isn_sn, isn_ln, isn_tn, isn_bb, tyD_list, tyD_dict, eq_self, imm_none, imm_bool, imm_int, imm_str, imm_tup, imm_list, imms_nil, imms_cons, inner_list,
  isi_int, isi_bool, isi_tuple, isi_list, isi_str, isi_dict, isInt, isBool, isTup, isLst, isStr, isDic, En.wipe, wipeS, restoreS, dMut, En.mine, En.own, dEnum, dZip, tru_none, tru_bool, tru_int, tru_list, tru_tup, len_list, len_tup, len_dict, PD.add_int, PD.sub_int, int_int, abs_int, le_int, lt_int, gt_int, ge_int, PD.eq_int, PD.ne_int, PD.ne_bool, PD.eq_bool, PD.eq_nil, ix_tup0, ix_tup1, ix_tup2, ix_tup3, ix_list0, ix_list1, tup_list, tup_tup, lst_list, lst_tup, dCallC, notVr, semC,
  Option.bind_some, Option.map_some, Option.bind_none, Option.map_none, List.getElem?_cons_zero, List.getElem?_cons_succ, List.length_cons, List.length_nil, List.map_cons, List.map_nil, List.replicate, List.append_nil, List.nil_append, List.cons_append, List.set_cons_zero, List.set_cons_succ, List.all_cons, List.all_nil, Nat.sub_self, Nat.reduceAdd, Nat.reduceSub, Nat.reduceLT, Nat.reduceEqDiff, List.mem_cons, List.not_mem_nil,  Nat.reduceLeDiff, if_true, if_false, reduceIte, ite_self, Bool.false_eq_true, Bool.not_true, Bool.not_false, decide_true, decide_false, Option.getD_some, Option.getD_none, Bool.true_and, Bool.and_true, Bool.false_and, Bool.and_false, false_and, and_false, true_and, and_true, not_true_eq_false, not_false_eq_true, or_self, or_false, false_or, List.isEmpty_cons, List.isEmpty_nil, Nat.zero_ne_one])
local macro_rules | `(tactic| walk_at "pd*") => `(tactic| simp only [dC, dVar, dBin, dCmp_ap, dCmpT, wB, dChainT, dOfT, dTruT, dAndT, dOrT, dNotT, dAndV, dOrV, dNotV, dIf, dNeg, dNil, dCons, gives, give_vr, give_sh, give_fr, get_sh, get_fr, get_vr, En.at, En.with, Sl.d, dTup, dLst, dCut, dNo, dPart, bCut, dNx, dSeq, dIfS, dRet, dRetN, dBk, dCt, dDrop, dStIx, set_l0, set_l1, gN, gCons, gTup, gNil, dSet, dPar, dUnp, settle, puts, En.put, En.set, dItems, dRg1, dRg2, itemsOf, dB1, semOf, slots, endOf, dCall, gets, light_f, light_t, wOf_f, wOf_t, is_nn, is_bn, is_in, is_sn, is_ln, is_tn, is_bb, isn_nn, isn_bn, isn_in, isn_sn, isn_ln, isn_tn, isn_bb, tyD_list, tyD_dict, eq_self, imm_none, imm_bool, imm_int, imm_str, imm_tup, imm_list, imms_nil, imms_cons, inner_list,
  isi_int, isi_bool, isi_tuple, isi_list, isi_str, isi_dict, isInt, isBool, isTup, isLst, isStr, isDic, En.wipe, wipeS, restoreS, dMut, En.mine, En.own, dEnum, dZip, tru_none, tru_bool, tru_int, tru_list, tru_tup, len_list, len_tup, len_dict, PD.add_int, PD.sub_int, int_int, abs_int, le_int, lt_int, gt_int, ge_int, PD.eq_int, PD.ne_int, PD.ne_bool, PD.eq_bool, PD.eq_nil, ix_tup0, ix_tup1, ix_tup2, ix_tup3, ix_list0, ix_list1, tup_list, tup_tup, lst_list, lst_tup, dCallC, notVr, semC,
  Option.bind_some, Option.map_some, Option.bind_none, Option.map_none, List.getElem?_cons_zero, List.getElem?_cons_succ, List.length_cons, List.length_nil, List.map_cons, List.map_nil, List.replicate, List.append_nil, List.nil_append, List.cons_append, List.set_cons_zero, List.set_cons_succ, List.all_cons, List.all_nil, Nat.sub_self, Nat.reduceAdd, Nat.reduceSub, Nat.reduceLT, Nat.reduceEqDiff, List.mem_cons, List.not_mem_nil,  Nat.reduceLeDiff, if_true, if_false, reduceIte, ite_self, Bool.false_eq_true, Bool.not_true, Bool.not_false, decide_true, decide_false, Option.getD_some, Option.getD_none, Bool.true_and, Bool.and_true, Bool.false_and, Bool.and_false, false_and, and_false, true_and, and_true, not_true_eq_false, not_false_eq_true, or_self, or_false, false_or, List.isEmpty_cons, List.isEmpty_nil, Nat.zero_ne_one, *])
/-! ### the law, the cup's beginning -/
abbrev eW (c : D) (s2 s3 s4 s5 s6 : Option Sl) : En := ⟨false, [none, some (.own c), s2, s3, s4, s5, s6]⟩
theorem four_at {i : Nat} {d : D} (h : ([.int 1, .int (-1), .int 7, .int (-3)] : List D)[i]? = some d) : ∃ n : Int, d = .int n ∧ n ≠ 0 ∧ -100 ≤ n ∧ n ≤ 100 := by
  match i, h with
  | 0, h => cases h; exact ⟨1, rfl, by decide, by decide, by decide⟩
  | 1, h => cases h; exact ⟨-1, rfl, by decide, by decide, by decide⟩
  | 2, h => cases h; exact ⟨7, rfl, by decide, by decide, by decide⟩
  | 3, h => cases h; exact ⟨-3, rfl, by decide, by decide, by decide⟩
  | n + 4, h => cases h
theorem law_turn {c i : D} (hc : Cup c) : ∃ c', turnOf (gN 2) l1_law [2, 3, 4, 5, 6] i (eW c none none none none none) = some (eW c' none none none none none) ∧ Cup c' := by
  obtain ⟨c1, x, e1, hc1, x0, x1⟩ := d_roll hc (n := 4) (by decide) (by decide)
  obtain ⟨c2, y, e2, hc2, y0, y1⟩ := d_roll hc1 (n := 5) (by decide) (by decide)
  obtain ⟨R, hR⟩ : ∃ R : Nat, 1 + x = (R : Int) := ⟨(1 + x).toNat, by omega⟩
  obtain ⟨C, hC⟩ : ∃ C : Nat, 1 + y = (C : Int) := ⟨(1 + y).toNat, by omega⟩
  have bR : 1 ≤ R ∧ R ≤ 4 := by omega
  have bC : 1 ≤ C ∧ C ≤ 5 := by omega
  obtain ⟨c3, T, e3, hc3, dT⟩ := d_table hc2 (R := R) (C := C) (by omega) (by omega)
  obtain ⟨c4, U, e4, hc4, dU⟩ := d_table hc3 (R := R) (C := C) (by omega) (by omega)
  have e5 := d_counts_right dT bR bC
  obtain ⟨c6, e6, hc6⟩ := d_parts_right dT dU bR bC hc4
  obtain ⟨c7, k, d, e7, hc7, hd⟩ := d_some hc6 (xs := [.int 1, .int (-1), .int 7, .int (-3)]) (by simp only [List.length_cons, List.length_nil]; omega) (by simp only [List.length_cons, List.length_nil]; omega)
  obtain ⟨n, rfl, hn⟩ := four_at hd
  have e8 := d_alike_right bR bC hn
  have i1 := hc1.inner
  have i2 := hc2.inner
  have i3 := hc3.inner
  have i4 := hc4.inner
  have i6 := hc6.inner
  have i7 := hc7.inner
  have t1 := imm_tab T
  have t2 := imm_tab U
  have n1 : decide ((3 : Nat) ≠ 1) = true := rfl
  have n2 : decide ((4 : Nat) ≠ 1) = true := rfl
  have n3 : decide ((5 : Nat) ≠ 1) = true := rfl
  have n4 : decide ((6 : Nat) ≠ 1) = true := rfl
  refine ⟨c7, turn_gN (ρ2 := eW c7 (some (.sh i)) (some (.sh (.int (R : Int)))) (some (.sh (.int (C : Int)))) (some (.sh (tabD T))) (some (.sh (tabD U)))) ?_ rfl, hc7⟩
  clear hc hc1 hc2 hc3 hc4 hc6 hc7 dT dU bR bC hd hn x0 x1 y0 y1
  unfold l1_law
  walk_at "pd*"
theorem law_true (x y : Int) (hx : 0 ≤ x) (hy : 0 ≤ y) (hy2 : y < 10000000000) : ∃ ρ, b_law (En.only 7 1 (.own (.list [.int x, .int y]))) = some (.rt (.sh (.bool true)) ρ) := by
  have hc : Cup (.list [.int x, .int y]) := ⟨x, y, rfl, hx, hy, hy2⟩
  obtain ⟨c', e, _⟩ := dFor_thr (fun c => eW c none none none none none) Cup (fi := dRg1 (dC (.int 6))) (tg := gN 2) (body := l1_law) (vs := [2, 3, 4, 5, 6]) (ds := rgD 0 6) (s0 := .list [.int x, .int y]) (rg1_at (n := 6) rfl (by decide)) hc fun d _ s hs => law_turn hs
  refine ⟨eW c' none none none none none, ?_⟩
  unfold b_law
  show dSeq _ _ (eW (.list [.int x, .int y]) none none none none none) = _
  rw [dSeq_nx e]
  rfl
theorem cup_made (c : Int) (hc : 0 ≤ c) : ∃ x y ρ, b__law_cup (En.only 2 1 (.sh (.int c))) = some (.rt (.fr (.list [.int x, .int y])) ρ) ∧ 0 ≤ x ∧ 0 ≤ y ∧ y < 10000000000 := by
  have b1 := Int.emod_nonneg (c * 2335 + 10791) (show (2077510337 : Int) ≠ 0 by decide)
  have b2 := Int.emod_lt_of_pos (c * 2335 + 10791) (show (0 : Int) < 2077510337 by decide)
  have p : bPow (.int 10) (.int 18) = some (.sh (.int 1000000000000000000)) := if_pos (show okPow 10 18 from ⟨by decide, by decide, by decide⟩)
  have m1 : bMul (.int c) (.int 2335) = some (.sh (.int (c * 2335))) := PD.mul_int (.inr ⟨by decide, by decide⟩)
  have m2 : bMod (.int (c * 2335 + 10791)) (.int 2077510337) = some (.sh (.int ((c * 2335 + 10791) % 2077510337))) := PD.mod_int (by decide)
  have m3 : bDiv (.int c) (.int 1503) = some (.sh (.int (c / 1503))) := PD.div_int ⟨by decide, by decide⟩
  generalize (c * 2335 + 10791) % 2077510337 = z at b1 b2 m2
  have w : En.only 2 1 (.sh (.int c)) = ⟨false, [none, some (.sh (.int c))]⟩ := rfl
  rw [w]
  by_cases h : (1000000000000000000 : Int) ≤ c
  · have k1 : decide ((1000000000000000000 : Int) ≤ c) = true := decide_eq_true h
    refine ⟨c / 1503, z + 1578, ⟨false, [none, some (.sh (.int c))]⟩, ?_, Int.ediv_nonneg hc (by decide), by omega, by omega⟩
    clear h hc b1 b2 w
    unfold b__law_cup
    walk_at "pd*"
  · have k1 : decide ((1000000000000000000 : Int) ≤ c) = false := decide_eq_false h
    refine ⟨0, z + 1578, ⟨false, [none, some (.sh (.int c))]⟩, ?_, by decide, by omega, by omega⟩
    clear h hc b1 b2 w
    unfold b__law_cup
    walk_at "pd*"
end PD.K47
open PySem PySem.W PyProof.Rows
set_option maxHeartbeats 0 in
theorem PySem.Challenge.cw_cellgrounds_k47_whole_sums_of_rectangles_holds : PySem.Challenge.rw_cellgrounds_k47_whole_sums_of_rectangles.Holds := by
  w_on; o_law; k_head; (case hw => w_witness2)
  k_fill
  refine L2.walk_of (l := PySem.Challenge.rw_cellgrounds_k47_whole_sums_of_rectangles) (n := 63) (k := 11) (x := "script") (CX := fun _ => L2.CX0) (sp := fun w => PD.spLaw _) rfl (by decide) rfl ⟨rfl, by decide, by decide⟩ (fun w h Y => PySem.W.kIn_of Y) ?F (fun _ _ a ns hl _ hS => ⟨a, ns, rfl, hS, hl, fun _ => rfl⟩) (fun _ _ _ _ _ h => h)
  case F =>
    intro w mg fa h KX G hmg
    refine' PD.K47.all_mk KX G hmg PD.K47.cup_made PD.K47.law_true ?a0 ?l0 ?c0 ?k0 ?a1 ?l1 ?c1 ?k1 ?a2 ?l2 ?c2 ?k2 ?a3 ?l3 ?c3 ?k3 ?a4 ?l4 ?c4 ?k4 ?a5 ?l5 ?c5 ?k5 ?a6 ?l6 ?c6 ?k6 ?a7 ?l7 ?c7 ?k7 ?a8 ?l8 ?c8 ?k8 ?a9 ?l9 ?c9 ?k9 ?a10 ?l10 ?c10 ?k10 ?a11 ?l11 ?c11 ?k11 ?a12 ?l12 ?c12 ?k12 ?a13 ?l13 ?c13 ?k13 ?a14 ?l14 ?c14 ?k14 ?a15 ?l15 ?c15 ?k15 ?a16 ?l16 ?c16 ?k16 ?a17 ?l17 ?c17 ?k17 ?a18 ?l18 ?c18 ?k18 ?a19 ?l19 ?c19 ?k19 ?a20 ?l20 ?c20 ?k20 ?a21 ?l21 ?c21 ?k21 ?a22 ?l22 ?c22 ?k22 ?a23 ?l23 ?c23 ?k23 ?a24 ?l24 ?c24 ?k24 ?z_abs ?z_all ?z_bool ?z_dict ?z_enumerate ?z_int ?z_isinstance ?z_len ?z_list ?z_max ?z_min ?z_range ?z_str ?z_sum ?z_tuple ?z_zip ?g_GREATEST ?g_SIDE
    (case a0 => k_is); (case l0 => k_is); (case c0 => k_is); (case k0 => k_is); (case a1 => k_is); (case l1 => k_is); (case c1 => k_is); (case k1 => k_is); (case a2 => k_is); (case l2 => k_is); (case c2 => k_is); (case k2 => k_is); (case a3 => k_is); (case l3 => k_is); (case c3 => k_is); (case k3 => k_is); (case a4 => k_is); (case l4 => k_is); (case c4 => k_is); (case k4 => k_is); (case a5 => k_is); (case l5 => k_is); (case c5 => k_is); (case k5 => k_is); (case a6 => k_is); (case l6 => k_is); (case c6 => k_is); (case k6 => k_is); (case a7 => k_is); (case l7 => k_is); (case c7 => k_is); (case k7 => k_is); (case a8 => k_is); (case l8 => k_is); (case c8 => k_is); (case k8 => k_is); (case a9 => k_is); (case l9 => k_is); (case c9 => k_is); (case k9 => k_is); (case a10 => k_is); (case l10 => k_is); (case c10 => k_is); (case k10 => k_is); (case a11 => k_is); (case l11 => k_is); (case c11 => k_is); (case k11 => k_is); (case a12 => k_is); (case l12 => k_is); (case c12 => k_is); (case k12 => k_is); (case a13 => k_is); (case l13 => k_is); (case c13 => k_is); (case k13 => k_is); (case a14 => k_is); (case l14 => k_is); (case c14 => k_is); (case k14 => k_is); (case a15 => k_is); (case l15 => k_is); (case c15 => k_is); (case k15 => k_is); (case a16 => k_is); (case l16 => k_is); (case c16 => k_is); (case k16 => k_is); (case a17 => k_is); (case l17 => k_is); (case c17 => k_is); (case k17 => k_is); (case a18 => k_is); (case l18 => k_is); (case c18 => k_is); (case k18 => k_is); (case a19 => k_is); (case l19 => k_is); (case c19 => k_is); (case k19 => k_is); (case a20 => k_is); (case l20 => k_is); (case c20 => k_is); (case k20 => k_is); (case a21 => k_is); (case l21 => k_is); (case c21 => k_is); (case k21 => k_is); (case a22 => k_is); (case l22 => k_is); (case c22 => k_is); (case k22 => k_is); (case a23 => k_is); (case l23 => k_is); (case c23 => k_is); (case k23 => k_is); (case a24 => k_is); (case l24 => k_is); (case c24 => k_is); (case k24 => k_is); (case z_abs => k_is); (case z_all => k_is); (case z_bool => k_is); (case z_dict => k_is); (case z_enumerate => k_is); (case z_int => k_is); (case z_isinstance => k_is); (case z_len => k_is); (case z_list => k_is); (case z_max => k_is); (case z_min => k_is); (case z_range => k_is); (case z_str => k_is); (case z_sum => k_is); (case z_tuple => k_is); (case z_zip => k_is); (case g_GREATEST => k_is); (case g_SIDE => k_is)
