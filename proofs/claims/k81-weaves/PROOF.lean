import PyProof.Rows.All
import HandS.ForMost
import HandS.IsInst
import HandS.Style
import HandS.Deep
import HandS.Walk
import HandS.Zip
import HandS.TupMul
import HandS.TupLe
import HandS.Flow
import HandS.TupAny
import HandS.Dict
import HandS.TupLen
import KE.GoesEnum
import KE.GoesNew
import HandS.TupSets
import HandS.Small
import HandS.Sort
import PyProof.SumWalkG
import HandS.ForDict
import HandS.RaiseMore
import HandS.SortInts
import HandS.SortRule
import KE.DatumOrd
import PyProof.DictMoreH
import HandS.SetKeys
import KE.KDictSum
import KE.KDictCopyH
import KE.SortData
import PySem.Challenge.RW_cellgrounds_k81_weaves_of_weaves
set_option Elab.async false
set_option linter.all false
set_option maxRecDepth 100000
set_option maxHeartbeats 4000000
/-! PD1: data trees over the hand layer: readings, the state of slots, what holds behind an evaluation. -/
namespace PD
set_option autoImplicit false
open PySem PySem.Spec L2
open PyProof.Rows hiding St

abbrev D := PyData
abbrev Rg := Addr → Prop

/-- a dict's key as data -/
def kD : Key → D
  | .inl i => .int i
  | .inr x => .str x

/-! ### dicts whose keys are tuples of whole numbers: their own objects, told by their entries -/
abbrev TE3 := List Int × Addr × Value
def hashT (ns : List Int) : Int := reduceHash (Builtin.Tuple.tupleHashOf (ns.map hashInt))
def entT3 (x : TE3) : DictEntry := ⟨hashT x.1, .ref x.2.1, x.2.2⟩
def tdOk (a : Addr) (es : List TE3) (h : Heap) : Prop :=
  (a == sysModules) = false ∧ es.length ≤ sizeLine ∧ (es.map (·.1)).Nodup ∧ ∃ o ens ep, h.get? a = some o ∧ o.ExactDict ∧ o.data = .dict ens ep ∧ ens.toList = es.map entT3
def tdO (a : Addr) (es : List TE3) : HO := .ext (tdOk a es)

mutual
/-- the value v is the datum d, read over H; lists and dicts in it stand within F -/
inductive Dt (K : PySem.W.Frag) (F : Rg) (H : Hp) : D → V → Prop
  | non : Dt K F H .none .non
  | bl (b : Bool) : Dt K F H (.bool b) (.bl b)
  | int (i : Int) : Dt K F H (.int i) (.int i)
  | str (x : Str) : Dt K F H (.str x) (.str x)
  | lst {a : Addr} {xs : List V} {ds : List D} : F a → Rd H a (.lst xs) → Dts K F H ds xs → Dt K F H (.list ds) (.ref a)
  | tup {a : Addr} {xs : List V} {ds : List D} : SqT K H a xs → Dts K F H ds xs → Dt K F H (.tuple ds) (.ref a)
  | dik {a : Addr} {ks : List (Key × V)} {kvs : List (D × D)} : F a → Rd H a (.dK ks) → Dkv K F H kvs ks → Dt K F H (.dict kvs) (.ref a)
  | dit {a : Addr} {ks : List TE3} {kvs : List (D × D)} : F a → Rd H a (tdO a ks) → Dkt K F H kvs ks → Dt K F H (.dict ((.none, .none) :: kvs)) (.ref a)
inductive Dts (K : PySem.W.Frag) (F : Rg) (H : Hp) : List D → List V → Prop
  | nil : Dts K F H [] []
  | cons {d : D} {v : V} {ds : List D} {vs : List V} : Dt K F H d v → Dts K F H ds vs → Dts K F H (d :: ds) (v :: vs)
inductive Dkv (K : PySem.W.Frag) (F : Rg) (H : Hp) : List (D × D) → List (Key × V) → Prop
  | nil : Dkv K F H [] []
  | cons {k : Key} {d : D} {v : V} {kvs : List (D × D)} {ks : List (Key × V)} : Dt K F H d v → Dkv K F H kvs ks → Dkv K F H ((kD k, d) :: kvs) ((k, v) :: ks)
/-- a dict whose keys are tuples -/
inductive Dkt (K : PySem.W.Frag) (F : Rg) (H : Hp) : List (D × D) → List TE3 → Prop
  | nil : Dkt K F H [] []
  | cons {k : List Int} {b : Addr} {d : D} {v : V} {u : Value} {kvs : List (D × D)} {ks : List TE3} : SqT K H b (k.map V.int) → Dt K F H d v → RelV v u → Dkt K F H kvs ks → Dkt K F H ((.tuple (k.map .int), d) :: kvs) ((k, b, u) :: ks)
end

section
variable {K : PySem.W.Frag} {F F' : Rg} {H H' : Hp}

/-- what a reading leans on stays: tuples, and what stands within F -/
structure Keeps (F F' : Rg) (H H' : Hp) : Prop where
  inn : ∀ a, F a → F' a
  tup : ∀ b xs, H b = some (.tup xs) → H' b = some (.tup xs)
  fzt : ∀ b o u, H b = some (.frz o u) → H' b = some (.frz o u)
  obj : ∀ b u, F b → Rd H b u → Rd H' b u

theorem Keeps.sqt (k : Keeps F F' H H') {a : Addr} {xs : List V} (h : SqT K H a xs) : SqT K H' a xs := by
  rcases h with (h | ⟨o, h⟩) | h
  · exact .inl (.inl (k.tup _ _ h))
  · exact .inl (.inr ⟨o, k.fzt _ _ _ h⟩)
  · exact .inr h

mutual
theorem Dt.keeps (k : Keeps F F' H H') : ∀ {d : D} {v : V}, Dt K F H d v → Dt K F' H' d v
  | _, _, .non => .non
  | _, _, .bl b => .bl b
  | _, _, .int i => .int i
  | _, _, .str x => .str x
  | _, _, .lst f r ds => .lst (k.inn _ f) (k.obj _ _ f r) (Dts.keeps k ds)
  | _, _, .tup r ds => .tup (k.sqt r) (Dts.keeps k ds)
  | _, _, .dik f r ds => .dik (k.inn _ f) (k.obj _ _ f r) (Dkv.keeps k ds)
  | _, _, .dit f r ds => .dit (k.inn _ f) (k.obj _ _ f r) (Dkt.keeps k ds)
theorem Dts.keeps (k : Keeps F F' H H') : ∀ {ds : List D} {vs : List V}, Dts K F H ds vs → Dts K F' H' ds vs
  | _, _, .nil => .nil
  | _, _, .cons h t => .cons (Dt.keeps k h) (Dts.keeps k t)
theorem Dkv.keeps (k : Keeps F F' H H') : ∀ {ds : List (D × D)} {vs : List (Key × V)}, Dkv K F H ds vs → Dkv K F' H' ds vs
  | _, _, .nil => .nil
  | _, _, .cons h t => .cons (Dt.keeps k h) (Dkv.keeps k t)
theorem Dkt.keeps (k : Keeps F F' H H') : ∀ {ds : List (D × D)} {vs : List TE3}, Dkt K F H ds vs → Dkt K F' H' ds vs
  | _, _, .nil => .nil
  | _, _, .cons s h r t => .cons (k.sqt s) (Dt.keeps k h) r (Dkt.keeps k t)
end

mutual
/-- no list and no dict in it -/
def imm : D → Bool
  | .none => true
  | .bool _ => true
  | .int _ => true
  | .str _ => true
  | .tuple ds => imms ds
  | .list _ => false
  | .dict _ => false
def imms : List D → Bool
  | [] => true
  | d :: ds => imm d && imms ds
end
/-- no list and no dict below its top -/
def inner : D → Bool
  | .list ds => imms ds
  | .dict kvs => imms (kvs.map (·.2))
  | d => imm d

theorem imms_all : ∀ ds : List D, imms ds = ds.all imm
  | [] => rfl
  | d :: ds => by rw [imms, List.all_cons, imms_all ds]

/-- what a reading of an immutable datum leans on -/
structure Keeps0 (H H' : Hp) : Prop where
  tup : ∀ b xs, H b = some (.tup xs) → H' b = some (.tup xs)
  fzt : ∀ b o xs, H b = some (.frz o (.tup xs)) → H' b = some (.frz o (.tup xs))
theorem Keeps0.refl {H : Hp} : Keeps0 H H := ⟨fun _ _ h => h, fun _ _ _ h => h⟩
theorem Keeps0.sqt (k : Keeps0 H H') {a : Addr} {xs : List V} (h : SqT K H a xs) : SqT K H' a xs := by
  rcases h with (h | ⟨o, h⟩) | h
  · exact .inl (.inl (k.tup _ _ h))
  · exact .inl (.inr ⟨o, k.fzt _ _ _ h⟩)
  · exact .inr h
mutual
theorem Dt.imm0 (k : Keeps0 H H') : ∀ {d : D} {v : V}, Dt K F H d v → imm d = true → Dt K F' H' d v
  | _, _, .non, _ => .non
  | _, _, .bl b, _ => .bl b
  | _, _, .int i, _ => .int i
  | _, _, .str x, _ => .str x
  | _, _, .tup r ds, e => .tup (k.sqt r) (Dts.imm0 k ds (by simpa [imm] using e))
  | _, _, .lst _ _ _, e => by simp [imm] at e
  | _, _, .dik _ _ _, e => by simp [imm] at e
  | _, _, .dit _ _ _, e => by simp [imm] at e
theorem Dts.imm0 (k : Keeps0 H H') : ∀ {ds : List D} {vs : List V}, Dts K F H ds vs → imms ds = true → Dts K F' H' ds vs
  | _, _, .nil, _ => .nil
  | _, _, .cons h t, e => .cons (Dt.imm0 k h (by simp [imms] at e; exact e.1)) (Dts.imm0 k t (by simp [imms] at e; exact e.2))
end
theorem Dkv.imm0 (k : Keeps0 H H') : ∀ {ds : List (D × D)} {vs : List (Key × V)}, Dkv K F H ds vs → imms (ds.map (·.2)) = true → Dkv K F' H' ds vs
  | _, _, .nil, _ => .nil
  | _, _, .cons h t, e => .cons (Dt.imm0 k h (by simp [imms] at e; exact e.1)) (Dkv.imm0 k t (by simp [imms] at e ⊢; exact e.2))
theorem Dkt.imm0 (k : Keeps0 H H') : ∀ {ds : List (D × D)} {vs : List TE3}, Dkt K F H ds vs → imms (ds.map (·.2)) = true → Dkt K F' H' ds vs
  | _, _, .nil, _ => .nil
  | _, _, .cons s h r t, e => .cons (k.sqt s) (Dt.imm0 k h (by simp [imms] at e; exact e.1)) r (Dkt.imm0 k t (by simp [imms] at e ⊢; exact e.2))

theorem Dts.length : ∀ {ds : List D} {vs : List V}, Dts K F H ds vs → ds.length = vs.length
  | _, _, .nil => rfl
  | _, _, .cons _ t => by simp [Dts.length t]
theorem Dts.get : ∀ {ds : List D} {vs : List V} {i : Nat} {d : D}, Dts K F H ds vs → ds[i]? = some d → ∃ v, vs[i]? = some v ∧ Dt K F H d v
  | _, _, _, _, .nil, e => by simp at e
  | _, _, 0, _, .cons h _, e => by simp at e; subst e; exact ⟨_, rfl, h⟩
  | _, _, i + 1, d, .cons _ t, e => by
    obtain ⟨v, h1, h2⟩ := Dts.get (i := i) (d := d) t (by simpa using e)
    exact ⟨v, by simpa using h1, h2⟩
theorem Dts.getV : ∀ {ds : List D} {vs : List V} {i : Nat} {v : V}, Dts K F H ds vs → vs[i]? = some v → ∃ d, ds[i]? = some d ∧ Dt K F H d v
  | _, _, _, _, .nil, e => by simp at e
  | _, _, 0, _, .cons h _, e => by simp at e; subst e; exact ⟨_, rfl, h⟩
  | _, _, i + 1, d, .cons _ t, e => by
    obtain ⟨v, h1, h2⟩ := Dts.getV (i := i) (v := d) t (by simpa using e)
    exact ⟨v, by simpa using h1, h2⟩
theorem Dts.append : ∀ {ds es : List D} {vs us : List V}, Dts K F H ds vs → Dts K F H es us → Dts K F H (ds ++ es) (vs ++ us)
  | _, _, _, _, .nil, s => s
  | _, _, _, _, .cons h t, s => .cons h (Dts.append t s)
theorem Dts.take : ∀ {ds : List D} {vs : List V} (n : Nat), Dts K F H ds vs → Dts K F H (ds.take n) (vs.take n)
  | _, _, 0, _ => .nil
  | _, _, _ + 1, .nil => .nil
  | _, _, n + 1, .cons h t => .cons h (Dts.take n t)
theorem Dts.drop : ∀ {ds : List D} {vs : List V} (n : Nat), Dts K F H ds vs → Dts K F H (ds.drop n) (vs.drop n)
  | _, _, 0, h => h
  | _, _, _ + 1, .nil => .nil
  | _, _, n + 1, .cons _ t => Dts.drop n t
theorem Dts.set {d : D} {v : V} (h : Dt K F H d v) : ∀ {ds : List D} {vs : List V} (i : Nat), Dts K F H ds vs → Dts K F H (ds.set i d) (vs.set i v)
  | _, _, _, .nil => .nil
  | _, _, 0, .cons _ t => .cons h t
  | _, _, i + 1, .cons q t => .cons q (Dts.set h i t)
theorem Dts.reverse : ∀ {ds : List D} {vs : List V}, Dts K F H ds vs → Dts K F H ds.reverse vs.reverse
  | _, _, .nil => .nil
  | _, _, .cons h t => by
    rw [List.reverse_cons, List.reverse_cons]
    exact (Dts.reverse t).append (.cons h .nil)
theorem Dts.dropLast : ∀ {ds : List D} {vs : List V}, Dts K F H ds vs → Dts K F H ds.dropLast vs.dropLast := fun {ds vs} h => by
  rw [List.dropLast_eq_take, List.dropLast_eq_take, h.length]
  exact h.take _
theorem Dts.rep {ds : List D} {vs : List V} (h : Dts K F H ds vs) : ∀ k : Nat, Dts K F H (List.replicate k ds).flatten (List.replicate k vs).flatten
  | 0 => .nil
  | k + 1 => by
    rw [List.replicate_succ, List.replicate_succ, List.flatten_cons, List.flatten_cons]
    exact h.append (Dts.rep h k)
theorem Dts.nil_iff {ds : List D} {vs : List V} (h : Dts K F H ds vs) : ds = [] ↔ vs = [] := by
  cases h <;> simp
theorem Dts.ints : ∀ {ns : List Int} {vs : List V}, Dts K F H (ns.map PyData.int) vs → vs = ns.map V.int
  | [], _, .nil => rfl
  | n :: ns, _, .cons h t => by
    cases h
    rw [Dts.ints t]
    rfl
theorem Dts.bools : ∀ {ns : List Bool} {vs : List V}, Dts K F H (ns.map PyData.bool) vs → vs = ns.map V.bl
  | [], _, .nil => rfl
  | n :: ns, _, .cons h t => by
    cases h
    rw [Dts.bools t]
    rfl


mutual
theorem Dt.dp : ∀ {d : D} {v : V}, Dt K F H d v → SeqAt.shaped d = true → Dp K H v d := fun {d v} h s => by
  exact Dt.dp0 h (by
    have : (d.canLay0 && decide (d.depth ≤ 64)) = true := s
    rw [Bool.and_eq_true] at this
    exact this.1)
theorem Dt.dp0 : ∀ {d : D} {v : V}, Dt K F H d v → d.canLay0 = true → Dp K H v d
  | _, _, .non, _ => .non
  | _, _, .bl b, _ => .bl b
  | _, _, .int i, _ => .int i
  | _, _, .str x, _ => .str x
  | _, _, .lst _ r ds, e => .lst (.inl r) (Dts.dp0 ds (by simpa [PyData.canLay0] using e))
  | _, _, .tup r ds, e => .tup r (Dts.dp0 ds (by simpa [PyData.canLay0] using e))
  | _, _, .dik _ _ _, e => by simp [PyData.canLay0] at e
  | _, _, .dit _ _ _, e => by simp [PyData.canLay0] at e
theorem Dts.dp0 : ∀ {ds : List D} {vs : List V}, Dts K F H ds vs → PyData.canLayAll0 ds = true → DpAll K H vs ds
  | _, _, .nil, _ => .nil
  | _, _, .cons h t, e => .cons (Dt.dp0 h (by simp [PyData.canLayAll0] at e; exact e.1)) (Dts.dp0 t (by simp [PyData.canLayAll0] at e; exact e.2))
end
end
end PD
set_option Elab.async false
set_option linter.all false
set_option maxRecDepth 100000
set_option maxHeartbeats 4000000
/-! PD2: slots, results, what holds behind an evaluation; the judgements over data. -/
namespace PD
set_option autoImplicit false
open PySem PySem.Spec L2
open PyProof.Rows hiding St

/-- what is fixed through a def's run: the written part, the heap at its entry, what was readable there, the address of the list that is handed in to be changed -/
structure G where
  K : PySem.W.Frag
  H0 : Hp
  F0 : Rg
  cup : Option Addr

/-- a slot: a value that is never changed any more, or a list or dict of our own -/
inductive Sl where
  | sh (d : D) | own (d : D)
structure En where
  cup : Bool
  sl : List (Option Sl)

/-- a list or dict that may be changed stands at a -/
def Mo (K : PySem.W.Frag) (F : Rg) (H : Hp) (d : D) (a : Addr) : Prop :=
  (∃ ds xs, d = .list ds ∧ H a = some (.lst xs) ∧ Dts K F H ds xs) ∨ (∃ kvs ks, d = .dict kvs ∧ H a = some (.dK ks) ∧ Dkv K F H kvs ks) ∨ (∃ kvs ks, d = .dict ((.none, .none) :: kvs) ∧ H a = some (tdO a ks) ∧ Dkt K F H kvs ks)

def OwnAt (ρ : En) (σ : St) (b : Addr) : Prop := ∃ (i : Nat) (d : D), ρ.sl[i]? = some (some (.own d)) ∧ σ[i]? = some (some (.ref b))

structure Rel (g : G) (F : Rg) (ρ : En) (σ : St) (H : Hp) : Prop where
  len : ρ.sl.length = σ.length
  sh : ∀ (i : Nat) (d : D), ρ.sl[i]? = some (some (.sh d)) → ∃ v, σ[i]? = some (some v) ∧ Dt g.K F H d v
  own : ∀ (i : Nat) (d : D), ρ.sl[i]? = some (some (.own d)) → ∃ a, σ[i]? = some (some (.ref a)) ∧ Mo g.K F H d a ∧ ¬ F a ∧ (g.H0 a = none ∨ g.cup = some a)
  dist : ∀ (i j : Nat) (d e : D) (a : Addr), ρ.sl[i]? = some (some (.own d)) → ρ.sl[j]? = some (some (.own e)) → σ[i]? = some (some (.ref a)) → σ[j]? = some (some (.ref a)) → i = j
  cupT : ρ.cup = true → ∃ c d, g.cup = some c ∧ σ[0]? = some (some (.ref c)) ∧ ρ.sl[0]? = some (some (.own d))
  cupF : ρ.cup = false → g.cup = none
  F0 : ∀ a, g.F0 a → F a
  Fn : ∀ a, F a → g.F0 a ∨ g.H0 a = none
  Fs : ∀ a, F a → H a ≠ none
  base : ∀ a o, g.H0 a = some o → g.cup ≠ some a → H a = some o

/-- what stays behind -/
structure Post (g : G) (F : Rg) (ρ : En) (σ : St) (H : Hp) (F' : Rg) (ρ' : En) (σ' : St) (H' : Hp) : Prop where
  rel : Rel g F' ρ' σ' H'
  mono : ∀ a, F a → F' a
  kept : ∀ b o, H b = some o → ¬ OwnAt ρ σ b → H' b = some o
  there : ∀ b, H b ≠ none → H' b ≠ none
  newF : ∀ b, F' b → F b ∨ H b = none ∨ OwnAt ρ σ b
  newO : ∀ b, OwnAt ρ' σ' b → OwnAt ρ σ b ∨ H b = none
/-- .. behind an expression: no slot is stored -/
structure TPo (g : G) (F : Rg) (ρ : En) (σ : St) (H : Hp) (F' : Rg) (ρ' : En) (H' : Hp) : Prop where
  post : Post g F ρ σ H F' ρ' σ H'
  pres : ∀ (i : Nat) (s : Sl), ρ.sl[i]? = some (some s) → ∃ s', ρ'.sl[i]? = some (some s')
  shr : ∀ b, OwnAt ρ' σ b → OwnAt ρ σ b

section
variable {g : G} {F F1 F2 F' : Rg} {ρ ρ1 ρ2 ρ' : En} {σ σ1 σ2 σ' : St} {H H1 H2 H' : Hp}

theorem Mo.mut {K : PySem.W.Frag} {d : D} {a : Addr} (h : Mo K F H d a) : ∃ o, H a = some o ∧ Mut (some o) ∧ (∀ xs, o ≠ .tup xs) ∧ ∀ ob u, o ≠ .frz ob u := by
  rcases h with ⟨_, _, _, e, _⟩ | ⟨_, _, _, e, _⟩ | ⟨_, _, _, e, _⟩
  · exact ⟨_, e, trivial, (fun _ z => nomatch z), fun _ _ z => nomatch z⟩
  · exact ⟨_, e, trivial, (fun _ z => nomatch z), fun _ _ z => nomatch z⟩
  · exact ⟨_, e, trivial, (fun _ z => nomatch z), fun _ _ z => nomatch z⟩
theorem Rel.ownObj (r : Rel g F ρ σ H) {b : Addr} (h : OwnAt ρ σ b) : ∃ d, Mo g.K F H d b ∧ ¬ F b ∧ (g.H0 b = none ∨ g.cup = some b) := by
  obtain ⟨i, d, e1, e2⟩ := h
  obtain ⟨a, e3, o, n, f⟩ := r.own i d e1
  rw [e2] at e3
  cases e3
  exact ⟨d, o, n, f⟩
theorem Rel.notOwnF (r : Rel g F ρ σ H) {b : Addr} (h : F b) : ¬ OwnAt ρ σ b := fun o => by
  obtain ⟨_, _, n, _⟩ := r.ownObj o
  exact n h
theorem Rel.notOwnT (r : Rel g F ρ σ H) {b : Addr} {xs : List V} (h : H b = some (.tup xs)) : ¬ OwnAt ρ σ b := fun o => by
  obtain ⟨_, ob, _⟩ := r.ownObj o
  obtain ⟨u, e, _, n, _⟩ := ob.mut
  rw [h] at e
  cases e
  exact n _ rfl
theorem Rel.notOwnZ (r : Rel g F ρ σ H) {b : Addr} {o : Obj} {u : HO} (h : H b = some (.frz o u)) : ¬ OwnAt ρ σ b := fun w => by
  obtain ⟨_, ob, _⟩ := r.ownObj w
  obtain ⟨u, e, _, _, n⟩ := ob.mut
  rw [h] at e
  cases e
  exact n _ _ rfl
theorem Rel.notOwnN (r : Rel g F ρ σ H) {b : Addr} (h : H b = none) : ¬ OwnAt ρ σ b := fun w => by
  obtain ⟨_, ob, _⟩ := r.ownObj w
  obtain ⟨u, e, _⟩ := ob.mut
  rw [h] at e
  cases e

/-- tuples, and what is readable, stay over what keeps all but our own -/
theorem keeps_of (r : Rel g F ρ σ H) (mono : ∀ a, F a → F' a) (kept : ∀ b o, H b = some o → ¬ OwnAt ρ σ b → H' b = some o) : Keeps F F' H H' where
  inn := mono
  tup := fun b xs e => kept b _ e (r.notOwnT e)
  fzt := fun b o xs e => kept b _ e (r.notOwnZ e)
  obj := fun b u f e => by
    rcases e with e | ⟨o, e⟩
    · exact .inl (kept b _ e (r.notOwnF f))
    · exact .inr ⟨o, kept b _ e (r.notOwnF f)⟩
theorem Post.keeps (r : Rel g F ρ σ H) (p : Post g F ρ σ H F' ρ' σ' H') : Keeps F F' H H' := keeps_of r p.mono p.kept
theorem Keeps.zero (k : Keeps F F' H H') : Keeps0 H H' := ⟨k.tup, fun b o _ e => k.fzt b o _ e⟩

theorem Post.refl (r : Rel g F ρ σ H) : Post g F ρ σ H F ρ σ H := ⟨r, fun _ h => h, fun _ _ h _ => h, fun _ h => h, fun _ h => .inl h, fun _ h => .inl h⟩
theorem Post.trans (r : Rel g F ρ σ H) (p : Post g F ρ σ H F1 ρ1 σ1 H1) (q : Post g F1 ρ1 σ1 H1 F2 ρ2 σ2 H2) : Post g F ρ σ H F2 ρ2 σ2 H2 where
  rel := q.rel
  mono := fun a h => q.mono a (p.mono a h)
  kept := fun b o h n => q.kept b o (p.kept b o h n) fun z => by
    rcases p.newO b z with z | z
    · exact n z
    · rw [h] at z; cases z
  there := fun b h => q.there b (p.there b h)
  newF := fun b h => by
    rcases q.newF b h with z | z | z
    · exact p.newF b z
    · by_cases e : H b = none
      · exact .inr (.inl e)
      · exact absurd z (p.there b e)
    · rcases p.newO b z with z | z
      · exact .inr (.inr z)
      · exact .inr (.inl z)
  newO := fun b h => by
    rcases q.newO b h with z | z
    · exact p.newO b z
    · by_cases e : H b = none
      · exact .inr e
      · exact absurd z (p.there b e)
theorem TPo.refl (r : Rel g F ρ σ H) : TPo g F ρ σ H F ρ H := ⟨Post.refl r, fun _ s h => ⟨s, h⟩, fun _ h => h⟩
theorem TPo.trans (r : Rel g F ρ σ H) (p : TPo g F ρ σ H F1 ρ1 H1) (q : TPo g F1 ρ1 σ H1 F2 ρ2 H2) : TPo g F ρ σ H F2 ρ2 H2 :=
  ⟨p.post.trans r q.post, fun i s h => let ⟨s1, h1⟩ := p.pres i s h; q.pres i s1 h1, fun b h => p.shr b (q.shr b h)⟩
end

/-- an expression's result: a value that is never changed any more; a new list or dict that nobody else has; what stands in a slot of our own -/
inductive W where
  | sh (d : D) | fr (d : D) | vr (i : Nat)
def Sl.d : Sl → D
  | .sh d => d
  | .own d => d
def En.at (ρ : En) (i : Nat) : Option D := match ρ.sl[i]? with
  | some (some s) => some s.d
  | _ => none
def W.get (ρ : En) : W → Option D
  | .sh d => some d
  | .fr d => some d
  | .vr i => ρ.at i
def RW (g : G) (F : Rg) (ρ : En) (σ : St) (H : Hp) (v : V) : W → Prop
  | .sh d => Dt g.K F H d v
  | .fr d => ∃ a, v = .ref a ∧ Mo g.K F H d a ∧ ¬ F a ∧ ¬ OwnAt ρ σ a ∧ g.H0 a = none
  | .vr i => σ[i]? = some (some v) ∧ ∃ s, ρ.sl[i]? = some (some s)
def ownV (ρ : En) (σ : St) (w : W) (a : Addr) : Prop := ∃ (i : Nat) (d : D), w = .vr i ∧ ρ.sl[i]? = some (some (.own d)) ∧ σ[i]? = some (some (.ref a))
theorem ownV.at {ρ : En} {σ : St} {w : W} {a : Addr} (h : ownV ρ σ w a) : OwnAt ρ σ a := by
  obtain ⟨i, d, _, h1, h2⟩ := h
  exact ⟨i, d, h1, h2⟩
def frAt (w : W) (v : V) (a : Addr) : Prop := (∃ d, w = .fr d) ∧ v = .ref a

section
variable {g : G} {F F1 F2 F' : Rg} {ρ ρ1 ρ2 ρ' : En} {σ σ1 σ2 σ' : St} {H H1 H2 H' : Hp} {w : W} {v : V}
theorem Mo.keeps {K : PySem.W.Frag} {d : D} {a : Addr} (k : Keeps F F' H H') (e : ∀ o, H a = some o → H' a = some o) (h : Mo K F H d a) : Mo K F' H' d a := by
  rcases h with ⟨ds, xs, h1, h2, h3⟩ | ⟨ds, xs, h1, h2, h3⟩ | ⟨ds, xs, h1, h2, h3⟩
  · exact .inl ⟨ds, xs, h1, e _ h2, h3.keeps k⟩
  · exact .inr (.inl ⟨ds, xs, h1, e _ h2, h3.keeps k⟩)
  · exact .inr (.inr ⟨ds, xs, h1, e _ h2, h3.keeps k⟩)
theorem RW.step (r : Rel g F ρ σ H) (h : RW g F ρ σ H v w) (p : TPo g F ρ σ H F' ρ' H') : RW g F' ρ' σ H' v w := by
  cases w with
  | sh d => exact Dt.keeps (p.post.keeps r) h
  | fr d =>
    obtain ⟨a, e, o, n, no, f⟩ := h
    obtain ⟨u, eu, _⟩ := o.mut
    refine ⟨a, e, o.keeps (p.post.keeps r) (fun o' e' => p.post.kept _ _ e' no), fun z => ?_, fun z => no (p.shr _ z), f⟩
    rcases p.post.newF a z with z | z | z
    · exact n z
    · rw [eu] at z; cases z
    · exact no z
  | vr i =>
    obtain ⟨e, s, q⟩ := h
    exact ⟨e, p.pres i s q⟩
/-- what stands there, read over a wider region -/
theorem RW.dt (r : Rel g F ρ σ H) (h : RW g F ρ σ H v w) {d : D} (e : w.get ρ = some d) {F' : Rg} (m : ∀ a, F a → F' a) (own : ∀ a, v = .ref a → (ownV ρ σ w a ∨ frAt w v a) → F' a) : Dt g.K F' H d v := by
  have k : Keeps F F' H H := ⟨m, fun _ _ h => h, fun _ _ _ h => h, fun _ _ _ h => h⟩
  have ob : ∀ a, v = .ref a → Mo g.K F H d a → F' a → Dt g.K F' H d v := fun a ev o f => by
    subst ev
    rcases o with ⟨ds, xs, rfl, h2, h3⟩ | ⟨ds, xs, rfl, h2, h3⟩ | ⟨ds, xs, rfl, h2, h3⟩
    · exact .lst f (.inl h2) (h3.keeps k)
    · exact .dik f (.inl h2) (h3.keeps k)
    · exact .dit f (.inl h2) (h3.keeps k)
  cases w with
  | sh d' => cases e; exact Dt.keeps k h
  | fr d' =>
    cases e
    obtain ⟨a, e, o, _⟩ := h
    exact ob a e o (own a e (.inr ⟨⟨_, rfl⟩, e⟩))
  | vr i =>
    obtain ⟨e1, s, q⟩ := h
    have e' : some s.d = some d := by
      have := e
      simpa only [W.get, En.at, q] using this
    cases e'
    cases s with
    | sh d' =>
      obtain ⟨v', e2, h⟩ := r.sh i d' q
      rw [e1] at e2
      cases e2
      exact Dt.keeps k h
    | own d' =>
      obtain ⟨a, e2, o, _⟩ := r.own i d' q
      rw [e1] at e2
      cases e2
      exact ob a rfl o (own a rfl (.inl ⟨i, _, rfl, q, e1⟩))
/-- read over everything -/
def All : Rg := fun _ => True
theorem RW.dt' (r : Rel g F ρ σ H) (h : RW g F ρ σ H v w) {d : D} (e : w.get ρ = some d) : Dt g.K All H d v := h.dt r e (fun _ _ => trivial) fun _ _ _ => trivial
theorem Dt.imm {K : PySem.W.Frag} {F F' : Rg} {H : Hp} {d : D} {v : V} (h : Dt K F H d v) (e : imm d = true) : Dt K F' H d v := h.imm0 Keeps0.refl e
end

/-! ### the judgements -/
/-- behind an expression -/
structure EPo (g : G) (F : Rg) (ρ : En) (σ : St) (H : Hp) (w : W) (ρ' : En) (v : V) (F' : Rg) (H' : Hp) : Prop where
  t : TPo g F ρ σ H F' ρ' H'
  rw : RW g F' ρ' σ H' v w
  new : ∀ a, frAt w v a → H a = none
abbrev DE := En → Option (W × En)
abbrev DT := En → Option (Bool × En)
abbrev DA := En → Option (List W × En)
def tE (g : G) (f : DE) : TE := fun σ H Q => ∃ F ρ, Rel g F ρ σ H ∧ ∃ w ρ', f ρ = some (w, ρ') ∧ ∀ v H' F', EPo g F ρ σ H w ρ' v F' H' → Q v H'
def tT (g : G) (f : DT) : TT := fun σ H Q => ∃ F ρ, Rel g F ρ σ H ∧ ∃ b ρ', f ρ = some (b, ρ') ∧ ∀ H' F', TPo g F ρ σ H F' ρ' H' → Q b H'
/-- results in a row: each as told, no two of the new ones the same -/
inductive RWs (g : G) (F : Rg) (ρ : En) (σ : St) (H : Hp) : List V → List W → Prop
  | nil : RWs g F ρ σ H [] []
  | cons {v : V} {w : W} {vs : List V} {ws : List W} : RW g F ρ σ H v w → RWs g F ρ σ H vs ws → (∀ a, frAt w v a → ∀ (i : Nat) y u, ws[i]? = some y → vs[i]? = some u → ¬ frAt y u a) → RWs g F ρ σ H (v :: vs) (w :: ws)
structure APo (g : G) (F : Rg) (ρ : En) (σ : St) (H : Hp) (ws : List W) (ρ' : En) (vs : List V) (F' : Rg) (H' : Hp) : Prop where
  t : TPo g F ρ σ H F' ρ' H'
  rw : RWs g F' ρ' σ H' vs ws
  new : ∀ (i : Nat) y u a, ws[i]? = some y → vs[i]? = some u → frAt y u a → H a = none
def tA (g : G) (f : DA) : TA := fun σ H Q => ∃ F ρ, Rel g F ρ σ H ∧ ∃ ws ρ', f ρ = some (ws, ρ') ∧ ∀ vs H' F', APo g F ρ σ H ws ρ' vs F' H' → Q vs H'

def PED (X : Cx) (e : Expr) (f : DE) : Prop := ∀ g : G, g.K = X.K → PE X e (tE g f)
def PTD (X : Cx) (e : Expr) (f : DT) : Prop := ∀ g : G, g.K = X.K → PT X e (tT g f)
def PWD (X : Cx) (e : Expr) (f : DT) : Prop := ∀ g : G, g.K = X.K → PW X e (tT g f)
def PAD (X : Cx) (es : List Expr) (f : DA) : Prop := ∀ g : G, g.K = X.K → PA X es (tA g f)

theorem _root_.L2.PE.wk {X : Cx} {e : Expr} {t t' : TE} (h : PE X e t) (hi : ∀ σ H Q, t' σ H Q → t σ H Q) : PE X e t' := ⟨fun pins s σ H Q I q => h.run pins s σ H Q I (hi σ H Q q)⟩
theorem _root_.L2.PT.wk {X : Cx} {e : Expr} {t t' : TT} (h : PT X e t) (hi : ∀ σ H Q, t' σ H Q → t σ H Q) : PT X e t' := ⟨fun pins s σ H Q I q => h.run pins s σ H Q I (hi σ H Q q)⟩
theorem _root_.L2.PW.wk {X : Cx} {e : Expr} {t t' : TT} (h : PW X e t) (hi : ∀ σ H Q, t' σ H Q → t σ H Q) : PW X e t' := ⟨fun w pins s σ H Q I q => h.run w pins s σ H Q I (hi σ H Q q)⟩
theorem _root_.L2.PA.wk {X : Cx} {es : List Expr} {t t' : TA} (h : PA X es t) (hi : ∀ σ H Q, t' σ H Q → t σ H Q) : PA X es t' := ⟨fun pos pins s σ H Q I q => h.run pos pins s σ H Q I (hi σ H Q q)⟩
theorem _root_.L2.PS.wk {X : Cx} {st : Stmt} {t t' : TS} (h : PS X st t) (hi : ∀ D σ H, t' D σ H → t D σ H) : PS X st t' := ⟨fun pins s σ H D I q => h.run pins s σ H D I (hi D σ H q)⟩
theorem _root_.L2.PSs.wk {X : Cx} {st : List Stmt} {t t' : TS} (h : PSs X st t) (hi : ∀ D σ H, t' D σ H → t D σ H) : PSs X st t' := ⟨fun pins s σ H D I q => h.run pins s σ H D I (hi D σ H q)⟩

section
variable {g : G} {F F1 F2 F' : Rg} {ρ ρ1 ρ2 ρ' : En} {σ σ1 σ2 σ' : St} {H H1 H2 H' : Hp} {w w1 w2 : W} {v v1 v2 : V}
theorem EPo.then (r : Rel g F ρ σ H) (p : TPo g F ρ σ H F1 ρ1 H1) (q : EPo g F1 ρ1 σ H1 w ρ2 v F2 H2) : EPo g F ρ σ H w ρ2 v F2 H2 :=
  ⟨p.trans r q.t, q.rw, fun a h => by
    by_cases e : H a = none
    · exact e
    · exact absurd (q.new a h) (p.post.there a e)⟩
/-- a value that needs no list, the heap as it stands -/
theorem EPo.val (r : Rel g F ρ σ H) {d : D} (h : Dt g.K F H d v) : EPo g F ρ σ H (.sh d) ρ v F H := ⟨TPo.refl r, h, fun a z => by obtain ⟨⟨_, z⟩, _⟩ := z; cases z⟩
end

/-! ### new objects -/
section
variable {g : G} {F : Rg} {ρ : En} {σ : St} {H : Hp} {p : Addr} {o : HO}
theorem upd_kept (hp : H p = none) : ∀ b u, H b = some u → upd H p o b = some u := fun b u e => by
  rw [upd_ne (ne_of_none e hp)]
  exact e
theorem keeps_new (hp : H p = none) : Keeps F F H (upd H p o) where
  inn := fun _ h => h
  tup := fun b xs e => upd_kept hp _ _ e
  fzt := fun b ob xs e => upd_kept hp _ _ e
  obj := fun b u f e => by
    rcases e with e | ⟨q, e⟩
    · exact .inl (upd_kept hp _ _ e)
    · exact .inr ⟨q, upd_kept hp _ _ e⟩
theorem Rel.keptAll {H' : Hp} (r : Rel g F ρ σ H) (k : ∀ b u, H b = some u → H' b = some u) : Rel g F ρ σ H' := by
  have kp : Keeps F F H H' := ⟨fun _ h => h, fun b _ e => k _ _ e, fun _ _ _ e => k _ _ e, fun b u f e => by
    rcases e with e | ⟨q, e⟩
    · exact .inl (k _ _ e)
    · exact .inr ⟨q, k _ _ e⟩⟩
  refine ⟨r.len, fun i d e => ?_, fun i d e => ?_, r.dist, r.cupT, r.cupF, r.F0, r.Fn, fun a f => ?_, fun a u e n => k _ _ (r.base a u e n)⟩
  · obtain ⟨v, e1, h⟩ := r.sh i d e
    exact ⟨v, e1, h.keeps kp⟩
  · obtain ⟨a, e1, ob, n, f⟩ := r.own i d e
    exact ⟨a, e1, ob.keeps kp (fun u e => k _ _ e), n, f⟩
  · intro z
    cases q : H a with
    | none => exact r.Fs a f q
    | some u => rw [k _ _ q] at z; cases z
theorem TPo.keptAll {H' : Hp} (r : Rel g F ρ σ H) (k : ∀ b u, H b = some u → H' b = some u) : TPo g F ρ σ H F ρ H' := by
  refine ⟨⟨r.keptAll k, fun _ h => h, fun b u e _ => k _ _ e, fun b h z => ?_, fun _ h => .inl h, fun _ h => .inl h⟩, fun _ s h => ⟨s, h⟩, fun _ h => h⟩
  cases q : H b with
  | none => exact h q
  | some u => rw [k _ _ q] at z; cases z
theorem Rel.fresh0 (r : Rel g F ρ σ H) (hp : H p = none) : g.H0 p = none := by
  cases q : g.H0 p with
  | none => rfl
  | some u =>
    by_cases c : g.cup = some p
    · cases hc : ρ.cup with
      | true =>
        obtain ⟨c', d, e1, e2, e3⟩ := r.cupT hc
        rw [c] at e1
        cases e1
        obtain ⟨a, e4, ob, _⟩ := r.own 0 d e3
        rw [e2] at e4
        cases e4
        obtain ⟨u', e5, _⟩ := ob.mut
        rw [hp] at e5
        cases e5
      | false => rw [r.cupF hc] at c; cases c
    · have := r.base p u q c
      rw [hp] at this
      cases this
theorem Rel.notF (r : Rel g F ρ σ H) (hp : H p = none) : ¬ F p := fun f => r.Fs p f hp
/-- a new list or dict -/
theorem EPo.newObj {d : D} (r : Rel g F ρ σ H) (hp : H p = none) (ob : Mo g.K F (upd H p o) d p) : EPo g F ρ σ H (.fr d) ρ (.ref p) F (upd H p o) :=
  ⟨TPo.keptAll r (upd_kept hp), ⟨p, rfl, ob, r.notF hp, r.notOwnN hp, r.fresh0 hp⟩, fun a h => by
    obtain ⟨_, h⟩ := h
    cases h
    exact hp⟩
theorem EPo.newList {ds : List D} {xs : List V} (r : Rel g F ρ σ H) (hp : H p = none) (h : Dts g.K F H ds xs) : EPo g F ρ σ H (.fr (.list ds)) ρ (.ref p) F (upd H p (.lst xs)) :=
  EPo.newObj r hp (.inl ⟨ds, xs, rfl, upd_same, h.keeps (keeps_new hp)⟩)
/-- a new tuple -/
theorem EPo.newTup {ds : List D} {xs : List V} (r : Rel g F ρ σ H) (hp : H p = none) (h : Dts g.K F H ds xs) : EPo g F ρ σ H (.sh (.tuple ds)) ρ (.ref p) F (upd H p (.tup xs)) :=
  ⟨TPo.keptAll r (upd_kept hp), Dt.tup (.inl (.inl upd_same)) (h.keeps (keeps_new hp)), fun a h => by obtain ⟨⟨_, z⟩, _⟩ := h; cases z⟩
end

/-! ### what is our own is given away: never changed any more -/
def En.freeze1 (ρ : En) (i : Nat) : En := match ρ.sl[i]? with
  | some (some (.own d)) => { ρ with sl := ρ.sl.set i (some (.sh d)) }
  | _ => ρ
/-- a result as a value that may be put into another one -/
def W.give (ρ : En) : W → Option (D × En)
  | .sh d => some (d, ρ)
  | .fr d => some (d, ρ)
  | .vr i => match ρ.sl[i]? with
    | some (some (.sh d)) => some (d, ρ)
    | some (some (.own d)) => if ρ.cup = true ∧ i = 0 then none else some (d, { ρ with sl := ρ.sl.set i (some (.sh d)) })
    | _ => none

section
variable {g : G} {F F' : Rg} {ρ ρ' : En} {σ : St} {H H' : Hp} {w : W} {v : V}
theorem sl_set_own {sl : List (Option Sl)} {i j : Nat} {s : Option Sl} {d : D} (h : (sl.set i s)[j]? = some (some (.own d))) (hs : s = some (.own d) → False) : i ≠ j ∧ sl[j]? = some (some (.own d)) := by
  by_cases e : i = j
  · subst e
    by_cases hl : i < sl.length
    · rw [List.getElem?_set_self hl] at h
      exact (hs (Option.some.inj h)).elim
    · rw [List.getElem?_eq_none (by simpa using hl)] at h
      cases h
  · rw [List.getElem?_set_ne e] at h
    exact ⟨e, h⟩
/-- a new region that takes in the object at b -/
def plus (F : Rg) (b : Addr) : Rg := fun a => F a ∨ a = b
theorem keeps_plus {b : Addr} : Keeps F (plus F b) H H := ⟨fun _ h => .inl h, fun _ _ h => h, fun _ _ _ h => h, fun _ _ _ h => h⟩
theorem Mo.dt {K : PySem.W.Frag} {d : D} {a : Addr} (h : Mo K F H d a) : Dt K (plus F a) H d (.ref a) := by
  rcases h with ⟨ds, xs, rfl, h2, h3⟩ | ⟨ds, xs, rfl, h2, h3⟩ | ⟨ds, xs, rfl, h2, h3⟩
  · exact .lst (.inr rfl) (.inl h2) (h3.keeps keeps_plus)
  · exact .dik (.inr rfl) (.inl h2) (h3.keeps keeps_plus)
  · exact .dit (.inr rfl) (.inl h2) (h3.keeps keeps_plus)
/-- the region grows by an object that is nobody's -/
theorem Rel.plus {b : Addr} (r : Rel g F ρ σ H) (no : ¬ OwnAt ρ σ b) (h0 : g.H0 b = none) (hs : H b ≠ none) : Rel g (plus F b) ρ σ H where
  len := r.len
  sh := fun i d e => let ⟨v, e1, h⟩ := r.sh i d e; ⟨v, e1, h.keeps keeps_plus⟩
  own := fun i d e => by
    obtain ⟨a, e1, ob, n, f⟩ := r.own i d e
    refine ⟨a, e1, ob.keeps keeps_plus (fun _ h => h), ?_, f⟩
    rintro (z | rfl)
    · exact n z
    · exact no ⟨i, d, e, e1⟩
  dist := r.dist
  cupT := r.cupT
  cupF := r.cupF
  F0 := fun a h => .inl (r.F0 a h)
  Fn := fun a h => by
    rcases h with h | rfl
    · exact r.Fn a h
    · exact .inr h0
  Fs := fun a h => by
    rcases h with h | rfl
    · exact r.Fs a h
    · exact hs
  base := r.base
theorem set_at {sl : List (Option Sl)} {i j : Nat} {s t : Option Sl} (h : (sl.set i s)[j]? = some t) : (i = j ∧ t = s ∧ i < sl.length) ∨ (i ≠ j ∧ sl[j]? = some t) := by
  by_cases e : i = j
  · subst e
    by_cases hl : i < sl.length
    · rw [List.getElem?_set_self hl] at h
      exact .inl ⟨rfl, (Option.some.inj h).symm, hl⟩
    · rw [List.getElem?_eq_none (by simpa using hl)] at h
      cases h
  · rw [List.getElem?_set_ne e] at h
    exact .inr ⟨e, h⟩
/-- a slot of our own is given away -/
theorem Rel.give {i : Nat} {d : D} {b : Addr} (r : Rel g F ρ σ H) (e : ρ.sl[i]? = some (some (.own d))) (eb : σ[i]? = some (some (.ref b))) (hc : ¬ (ρ.cup = true ∧ i = 0)) :
    Rel g (PD.plus F b) { ρ with sl := ρ.sl.set i (some (.sh d)) } σ H := by
  obtain ⟨a, e1, ob, n, f⟩ := r.own i d e
  rw [eb] at e1
  cases e1
  have f' : g.H0 b = none := by
    rcases f with f | f
    · exact f
    · cases hcu : ρ.cup with
      | false => rw [r.cupF hcu] at f; cases f
      | true =>
        obtain ⟨c, d', c1, c2, c3⟩ := r.cupT hcu
        rw [f] at c1
        cases c1
        exact absurd ⟨hcu, r.dist i 0 d d' b e c3 eb c2⟩ hc
  refine ⟨by simpa using r.len, fun j d' e' => ?_, fun j d' e' => ?_, fun j k d1 d2 a h1 h2 h3 h4 => ?_, fun h => ?_, r.cupF, fun a h => .inl (r.F0 a h), fun a h => ?_, fun a h => ?_, r.base⟩
  · rcases set_at e' with ⟨rfl, q, _⟩ | ⟨_, e'⟩
    · cases q
      exact ⟨_, eb, ob.dt⟩
    · obtain ⟨v, e1, h⟩ := r.sh j d' e'
      exact ⟨v, e1, h.keeps keeps_plus⟩
  · rcases set_at e' with ⟨rfl, q, _⟩ | ⟨ne, e'⟩
    · cases q
    · obtain ⟨a, e1, ob', n', f⟩ := r.own j d' e'
      refine ⟨a, e1, ob'.keeps keeps_plus (fun _ h => h), ?_, f⟩
      rintro (z | rfl)
      · exact n' z
      · exact ne (r.dist i j d d' a e e' eb e1)
  · rcases set_at h1 with ⟨rfl, q, _⟩ | ⟨_, h1⟩
    · cases q
    · rcases set_at h2 with ⟨rfl, q, _⟩ | ⟨_, h2⟩
      · cases q
      · exact r.dist j k d1 d2 a h1 h2 h3 h4
  · obtain ⟨c, d', c1, c2, c3⟩ := r.cupT h
    refine ⟨c, d', c1, c2, ?_⟩
    show (ρ.sl.set i (some (.sh d)))[0]? = _
    rw [List.getElem?_set_ne (fun z => hc ⟨h, z⟩)]
    exact c3
  · rcases h with h | rfl
    · exact r.Fn a h
    · exact .inr f'
  · rcases h with h | rfl
    · exact r.Fs a h
    · intro z
      obtain ⟨u, eu, _⟩ := ob.mut
      rw [z] at eu
      cases eu
theorem give_own {i : Nat} {d : D} {b : Addr} (h : OwnAt { ρ with sl := ρ.sl.set i (some (.sh d)) } σ b) : OwnAt ρ σ b := by
  obtain ⟨j, d', e1, e2⟩ := h
  rcases set_at e1 with ⟨rfl, q, _⟩ | ⟨_, e1⟩
  · cases q
  · exact ⟨j, d', e1, e2⟩
theorem give_pres {i : Nat} {d : D} : ∀ (j : Nat) (s : Sl), ρ.sl[j]? = some (some s) → ∃ s', (ρ.sl.set i (some (.sh d)))[j]? = some (some s') := fun j s e => by
  by_cases h : i = j
  · subst h
    exact ⟨.sh d, List.getElem?_set_self (List.getElem?_eq_some_iff.mp e).1⟩
  · exact ⟨s, by rw [List.getElem?_set_ne h]; exact e⟩
/-- a result is given away -/
theorem give_ok {d : D} (r : Rel g F ρ σ H) (h : RW g F ρ σ H v w) (e : w.give ρ = some (d, ρ')) :
    ∃ F', (∀ a, F a → F' a) ∧ (∀ a, F' a → F a ∨ OwnAt ρ σ a ∨ frAt w v a) ∧ Rel g F' ρ' σ H ∧ Dt g.K F' H d v ∧
      (∀ b, OwnAt ρ' σ b → OwnAt ρ σ b) ∧ (∀ (i : Nat) (s : Sl), ρ.sl[i]? = some (some s) → ∃ s', ρ'.sl[i]? = some (some s')) ∧ (∀ b, F' b → ¬ OwnAt ρ' σ b) := by
  cases w with
  | sh d' =>
    cases e
    exact ⟨F, fun _ h => h, fun _ h => .inl h, r, h, fun _ h => h, fun _ s h => ⟨s, h⟩, fun b h => r.notOwnF h⟩
  | fr d' =>
    cases e
    obtain ⟨a, rfl, ob, n, no, f⟩ := h
    have hs : H a ≠ none := fun z => by
      obtain ⟨u, eu, _⟩ := ob.mut
      rw [z] at eu
      cases eu
    have r' := r.plus no f hs
    refine ⟨PD.plus F a, fun _ h => .inl h, fun b h => ?_, r', ob.dt, fun _ h => h, fun _ s h => ⟨s, h⟩, fun b h => r'.notOwnF h⟩
    rcases h with h | rfl
    · exact .inl h
    · exact .inr (.inr ⟨⟨_, rfl⟩, rfl⟩)
  | vr i =>
    obtain ⟨e1, s, q⟩ := h
    simp only [W.give, q] at e
    cases s with
    | sh d' =>
      cases e
      obtain ⟨v', e2, h⟩ := r.sh i d q
      rw [e1] at e2
      cases e2
      exact ⟨F, fun _ h => h, fun _ h => .inl h, r, h, fun _ h => h, fun _ s h => ⟨s, h⟩, fun b h => r.notOwnF h⟩
    | own d' =>
      simp only at e
      split at e
      · cases e
      · rename_i hc
        cases e
        obtain ⟨a, e2, ob, n, f⟩ := r.own i d q
        rw [e1] at e2
        cases e2
        have r' := r.give q e1 hc
        refine ⟨PD.plus F a, fun _ h => .inl h, fun b h => ?_, r', ob.dt, fun _ => give_own, give_pres, fun b h => r'.notOwnF h⟩
        rcases h with h | rfl
        · exact .inl h
        · exact .inr (.inl ⟨i, d, q, e1⟩)
end
end PD
set_option Elab.async false
set_option linter.all false
set_option maxRecDepth 100000
set_option maxHeartbeats 4000000
/-! PD3: expressions: names, constants, operators, comparisons, tests, displays, subscripts. -/
namespace PD
set_option autoImplicit false
open PySem PySem.Spec L2
open PyProof.Rows hiding St

/-- whether a dict's keys are tuples: such a dict's data begin with a mark -/
def isT : List (D × D) → Bool
  | (.none, .none) :: _ => true
  | _ => false
theorem isT_iff {kvs : List (D × D)} : isT kvs = true ↔ ∃ l, kvs = (.none, .none) :: l := by
  constructor
  · intro h
    unfold isT at h
    split at h
    · exact ⟨_, rfl⟩
    · cases h
  · rintro ⟨l, rfl⟩
    rfl
/-- a value read at its top wherever it stands, below within F -/
def Dtop (K : PySem.W.Frag) (F : Rg) (H : Hp) (d : D) (v : V) : Prop := match d with
  | .list ds => ∃ a xs, v = .ref a ∧ Rd H a (.lst xs) ∧ Dts K F H ds xs
  | .dict kvs => (∃ a ks, v = .ref a ∧ Rd H a (.dK ks) ∧ Dkv K F H kvs ks) ∨ ∃ a ks l, kvs = (.none, .none) :: l ∧ v = .ref a ∧ Rd H a (tdO a ks) ∧ Dkt K F H l ks
  | d => Dt K F H d v
section
variable {K : PySem.W.Frag} {F F' : Rg} {H H' : Hp} {g : G} {ρ ρ' ρ1 ρ2 : En} {σ : St} {w : W} {v : V} {d : D}
theorem Dt.top (h : Dt K F H d v) : Dtop K F H d v := by
  cases h with
  | lst f r ds => exact ⟨_, _, rfl, r, ds⟩
  | dik f r ds => exact .inl ⟨_, _, rfl, r, ds⟩
  | dit f r ds => exact .inr ⟨_, _, _, rfl, rfl, r, ds⟩
  | non => exact .non
  | bl b => exact .bl b
  | int i => exact .int i
  | str x => exact .str x
  | tup r ds => exact .tup r ds
theorem Mo.top {a : Addr} (h : Mo K F H d a) : Dtop K F H d (.ref a) := by
  rcases h with ⟨ds, xs, rfl, h2, h3⟩ | ⟨ds, xs, rfl, h2, h3⟩ | ⟨ds, xs, rfl, h2, h3⟩
  · exact ⟨_, _, rfl, .inl h2, h3⟩
  · exact .inl ⟨_, _, rfl, .inl h2, h3⟩
  · exact .inr ⟨_, _, _, rfl, rfl, .inl h2, h3⟩
theorem Dkv.notT {ds : List (D × D)} {vs : List (Key × V)} (h : Dkv K F H ds vs) : isT ds = false := by
  cases h with
  | nil => rfl
  | cons h t =>
    rename_i k d v kvs ks
    cases k <;> rfl
theorem Dtop.dik {kvs : List (D × D)} (h : Dtop K F H (.dict kvs) v) (n : isT kvs = false) : ∃ a ks, v = .ref a ∧ Rd H a (.dK ks) ∧ Dkv K F H kvs ks := by
  rcases h with h | ⟨a, ks, l, rfl, _⟩
  · exact h
  · cases n
theorem Dtop.dit {kvs : List (D × D)} (h : Dtop K F H (.dict kvs) v) (n : isT kvs = true) : ∃ a ks, v = .ref a ∧ Rd H a (tdO a ks) ∧ Dkt K F H kvs.tail ks := by
  rcases h with ⟨a, ks, rfl, _, h⟩ | ⟨a, ks, l, rfl, h⟩
  · rw [h.notT] at n; cases n
  · exact ⟨a, ks, h⟩
theorem Dt.all (h : Dt K F H d v) : Dt K All H d v := h.keeps ⟨fun _ _ => trivial, fun _ _ h => h, fun _ _ _ h => h, fun _ _ _ h => h⟩
theorem Dts.all {ds : List D} {vs : List V} (h : Dts K F H ds vs) : Dts K All H ds vs := h.keeps ⟨fun _ _ => trivial, fun _ _ h => h, fun _ _ _ h => h, fun _ _ _ h => h⟩
theorem Dkv.all {ds : List (D × D)} {vs : List (Key × V)} (h : Dkv K F H ds vs) : Dkv K All H ds vs := h.keeps ⟨fun _ _ => trivial, fun _ _ h => h, fun _ _ _ h => h, fun _ _ _ h => h⟩
theorem Dkt.all {ds : List (D × D)} {vs : List TE3} (h : Dkt K F H ds vs) : Dkt K All H ds vs := h.keeps ⟨fun _ _ => trivial, fun _ _ h => h, fun _ _ _ h => h, fun _ _ _ h => h⟩
theorem Dtop.all (h : Dtop K F H d v) : Dt K All H d v := by
  cases d with
  | list ds => obtain ⟨a, xs, rfl, r, h⟩ := h; exact .lst trivial r h.all
  | dict ds =>
    rcases h with ⟨a, xs, rfl, r, h⟩ | ⟨a, xs, l, rfl, rfl, r, h⟩
    · exact .dik trivial r h.all
    · exact .dit trivial r h.all
  | none => exact Dt.all h
  | bool b => exact Dt.all h
  | int i => exact Dt.all h
  | str x => exact Dt.all h
  | tuple ds => exact Dt.all h
theorem RW.top (r : Rel g F ρ σ H) (h : RW g F ρ σ H v w) (e : w.get ρ = some d) : Dtop g.K F H d v := by
  cases w with
  | sh d' => cases e; exact Dt.top h
  | fr d' =>
    cases e
    obtain ⟨a, rfl, o, _⟩ := h
    exact o.top
  | vr i =>
    obtain ⟨e1, s, q⟩ := h
    have e' : some s.d = some d := by simpa only [W.get, En.at, q] using e
    cases e'
    cases s with
    | sh d' =>
      obtain ⟨v', e2, h⟩ := r.sh i d' q
      rw [e1] at e2
      cases e2
      exact Dt.top h
    | own d' =>
      obtain ⟨a, e2, o, _⟩ := r.own i d' q
      rw [e1] at e2
      cases e2
      exact o.top
end

/-- what an operation by values leaves: a value over the heap as it was, a new tuple, a new list or dict -/
def NewR (K : PySem.W.Frag) (F : Rg) (H : Hp) (v : V) (H' : Hp) : W → Prop
  | .sh d => (H' = H ∧ Dt K F H d v) ∨ ∃ p ds xs, d = .tuple ds ∧ v = .ref p ∧ H p = none ∧ H' = upd H p (.tup xs) ∧ Dts K F H ds xs
  | .fr d => ∃ p o, v = .ref p ∧ H p = none ∧ H' = upd H p o ∧ Mo K F H' d p
  | .vr _ => False
section
variable {F F' : Rg} {H H' : Hp} {g : G} {ρ ρ' ρ1 ρ2 : En} {σ : St} {w : W} {v : V} {d : D}
theorem NewR.epo (r : Rel g F ρ σ H) (h : NewR g.K F H v H' w) : EPo g F ρ σ H w ρ v F H' := by
  cases w with
  | sh d =>
    rcases h with ⟨rfl, h⟩ | ⟨p, ds, xs, rfl, rfl, hp, rfl, h⟩
    · exact EPo.val r h
    · exact EPo.newTup r hp h
  | fr d =>
    obtain ⟨p, o, rfl, hp, rfl, h⟩ := h
    exact EPo.newObj r hp h
  | vr i => exact h.elim
theorem NewR.val {K : PySem.W.Frag} (h : Dt K F H d v) : NewR K F H v H (.sh d) := .inl ⟨rfl, h⟩
theorem NewR.tup {K : PySem.W.Frag} {p : Addr} {ds : List D} {xs : List V} (hp : H p = none) (h : Dts K F H ds xs) : NewR K F H (.ref p) (upd H p (.tup xs)) (.sh (.tuple ds)) := .inr ⟨p, ds, xs, rfl, rfl, hp, rfl, h⟩
theorem NewR.lst {K : PySem.W.Frag} {p : Addr} {ds : List D} {xs : List V} (hp : H p = none) (h : Dts K F H ds xs) : NewR K F H (.ref p) (upd H p (.lst xs)) (.fr (.list ds)) :=
  ⟨p, _, rfl, hp, rfl, .inl ⟨ds, xs, rfl, upd_same, h.keeps (keeps_new hp)⟩⟩
end

/-! ### names and constants -/
def dC (d : D) : DE := fun ρ => some (.sh d, ρ)
def dVar (i : Nat) : DE := fun ρ => match ρ.sl[i]? with
  | some (some (.sh d)) => some (.sh d, ρ)
  | some (some (.own _)) => some (.vr i, ρ)
  | _ => none
section
variable {X : Cx} {pos : Pos}
theorem pd_var (i : Nat) {x : Str} (h : PE X (.Name x pos) (tVar i)) : PED X (.Name x pos) (dVar i) := fun g hg => h.wk fun σ H Q t => by
  obtain ⟨F, ρ, r, w, ρ', e, q⟩ := t
  unfold dVar at e
  split at e
  · rename_i d hd
    cases e
    obtain ⟨v, e1, h⟩ := r.sh i d hd
    exact ⟨v, e1, q v H F (EPo.val r h)⟩
  · rename_i d hd
    cases e
    obtain ⟨a, e1, _⟩ := r.own i d hd
    exact ⟨_, e1, q _ H F ⟨TPo.refl r, ⟨e1, _, hd⟩, fun a z => by obtain ⟨⟨_, z⟩, _⟩ := z; cases z⟩⟩
  · cases e
theorem pd_c {e : Expr} {v : V} {d : D} (h : PE X e (tC v)) (hd : ∀ K F H, Dt K F H d v) : PED X e (dC d) := fun g hg => h.wk fun σ H Q t => by
  obtain ⟨F, ρ, r, w, ρ', e, q⟩ := t
  cases e
  exact q v H F (EPo.val r (hd _ _ _))
theorem pd_int {i j} : PED X (.Constant (.int i) j pos) (dC (.int i)) := pd_c pe_int fun _ _ _ => .int i
theorem pd_bl {b j} : PED X (.Constant (.bool b) j pos) (dC (.bool b)) := pd_c pe_bl fun _ _ _ => .bl b
theorem pd_non {j} : PED X (.Constant .none j pos) (dC .none) := pd_c pe_non fun _ _ _ => .non
theorem pd_str {x j} : PED X (.Constant (.str x) j pos) (dC (.str x)) := pd_c pe_str fun _ _ _ => .str x
theorem pd_gint {x : Str} {n : Int} {t : Tok} (hg : Gl X x) (hm : X.mg x = some (.int n t)) (hd : (x == ("__debug__" : Str)) = false := by decide) : PED X (.Name x pos) (dC (.int n)) :=
  pd_c (pe_glob (v := .int n) hg hm ⟨t, rfl⟩ hd) fun _ _ _ => .int n
end

/-! ### operators by data -/
structure F2 (X : Cx) (f : Value → Value → Sem Value) (sem : D → D → Option W) : Prop where
  ex : ∃ r, OpR X f r ∧ ∀ (F : Rg) (H : Hp) (a b : D) (va vb : V) (w : W) (Q : VK), Dtop X.K F H a va → Dtop X.K F H b vb → sem a b = some w → (∀ v H', NewR X.K F H v H' w → Q v H') → r va vb H Q
def dBin (sem : D → D → Option W) (fa fb : DE) : DE := fun ρ => (fa ρ).bind fun x => (fb x.2).bind fun y => (x.1.get y.2).bind fun a => (y.1.get y.2).bind fun b => (sem a b).map fun w => (w, y.2)
section
variable {X : Cx} {pos : Pos} {a b c : Expr} {fa fb fc : DE}
/-- two expressions in a row, then what is asked of their values -/
theorem two {g : G} {sem : D → D → Option W} {σ : St} {H : Hp} {Q : VK} (t : tE g (dBin sem fa fb) σ H Q) {R : V → V → Hp → Prop}
    (h : ∀ (F : Rg) (ρ : En) (H2 : Hp) (a b : D) (va vb : V) (w : W), Rel g F ρ σ H2 → Dtop g.K F H2 a va → Dtop g.K F H2 b vb → sem a b = some w → (∀ v H', NewR g.K F H2 v H' w → Q v H') → R va vb H2) :
    tE g fa σ H fun x H1 => tE g fb σ H1 fun y H2 => R x y H2 := by
  obtain ⟨F, ρ, r, w, ρ', e, q⟩ := t
  unfold dBin at e
  obtain ⟨⟨x, ρ1⟩, e1, e⟩ := Option.bind_eq_some_iff.mp e
  obtain ⟨⟨y, ρ2⟩, e2, e⟩ := Option.bind_eq_some_iff.mp e
  obtain ⟨da, e3, e⟩ := Option.bind_eq_some_iff.mp e
  obtain ⟨db, e4, e⟩ := Option.bind_eq_some_iff.mp e
  obtain ⟨w', e5, e⟩ := Option.map_eq_some_iff.mp e
  cases e
  refine ⟨F, ρ, r, x, ρ1, e1, fun v H1 F1 p1 => ⟨F1, ρ1, p1.t.post.rel, y, ρ2, e2, fun u H2 F2 p2 => ?_⟩⟩
  have r2 := p2.t.post.rel
  exact h F2 ρ2 H2 da db v u _ r2 (RW.top r2 (p1.rw.step p1.t.post.rel p2.t) e3) (RW.top r2 p2.rw e4) e5 fun v' H' n => q v' H' F2 (EPo.then r (p1.t.trans r p2.t) (n.epo r2))
theorem pd_bin {op : Operator} {sem : D → D → Option W} (ho : F2 X (binaryOp op) sem) (ha : PED X a fa) (hb : PED X b fb) : PED X (.BinOp a op b pos) (dBin sem fa fb) := fun g hg => by
  obtain ⟨r, hr, hq⟩ := ho.ex
  refine (pe_op hr (ha g hg) (hb g hg)).wk fun σ H Q t => ?_
  exact two t fun F ρ H2 da db va vb w r2 ta tb e q => hq F H2 da db va vb w Q (hg ▸ ta) (hg ▸ tb) e fun v H' n => q v H' (hg ▸ n)
end

def bAdd : D → D → Option W
  | .int i, .int j => some (.sh (.int (i + j)))
  | .list xs, .list ys => if xs.length + ys.length ≤ 16777216 then some (.fr (.list (xs ++ ys))) else none
  | .tuple xs, .tuple ys => if xs.length + ys.length ≤ 16777216 then some (.sh (.tuple (xs ++ ys))) else none
  | .str x, .str y => if x.length + y.length ≤ 16777216 then some (.sh (.str (x ++ y))) else none
  | _, _ => none
def bSub : D → D → Option W
  | .int i, .int j => some (.sh (.int (i - j)))
  | _, _ => none
/-- (behind a name: else the kernel may count down from such a number) -/
def okDiv (j : Int) : Prop := 0 < j ∧ j < 1073741824
open Classical in
noncomputable def bDiv : D → D → Option W
  | .int i, .int j => if okDiv j then some (.sh (.int (i / j))) else none
  | _, _ => none
def bMod : D → D → Option W
  | .int i, .int j => if 0 < j then some (.sh (.int (i % j))) else none
  | _, _ => none
def okPow (i j : Int) : Prop := 0 ≤ j ∧ j ≤ 1000000 ∧ i.natAbs < 18446744073709551616
open Classical in
noncomputable def bPow : D → D → Option W
  | .int i, .int j => if okPow i j then some (.sh (.int (i ^ j.toNat))) else none
  | _, _ => none

section
variable {X : Cx}
theorem Dtop.int_inv {K : PySem.W.Frag} {F : Rg} {H : Hp} {i : Int} {v : V} (h : Dtop K F H (.int i) v) : v = .int i := by
  cases (show Dt K F H (.int i) v from h)
  rfl
theorem Dtop.str_inv {K : PySem.W.Frag} {F : Rg} {H : Hp} {i : Str} {v : V} (h : Dtop K F H (.str i) v) : v = .str i := by
  cases (show Dt K F H (.str i) v from h)
  rfl
theorem Dtop.bool_inv {K : PySem.W.Frag} {F : Rg} {H : Hp} {i : Bool} {v : V} (h : Dtop K F H (.bool i) v) : v = .bl i := by
  cases (show Dt K F H (.bool i) v from h)
  rfl
theorem Dtop.tup_inv {K : PySem.W.Frag} {F : Rg} {H : Hp} {ds : List D} {v : V} (h : Dtop K F H (.tuple ds) v) : ∃ a xs, v = .ref a ∧ SqT K H a xs ∧ Dts K F H ds xs := by
  cases (show Dt K F H (.tuple ds) v from h)
  exact ⟨_, _, rfl, by assumption, by assumption⟩
theorem lst_obj {pins : List (Addr × Obj)} {σ : St} {H : Hp} {s : Shared} {l : Addr} {xs : List V} (I : Inv X pins σ H s) (h : Rd H l (.lst xs)) :
    ∃ (its : List Value) (n : Nat), Vals xs its ∧ xs.length = its.length ∧ s.heap.get? l = some { cls := .type "list", data := .seq its.toArray n } := by
  obtain ⟨_, its, n, r, e⟩ := h.ok I.hok
  exact ⟨its, n, r, r.length, e⟩
theorem op_catR : OpR X (binaryOp .Add) (fun x y H Q => ∃ l b xs zs, x = .ref l ∧ y = .ref b ∧ Rd H l (.lst xs) ∧ Rd H b (.lst zs) ∧ xs.length + zs.length ≤ sizeLine ∧ ∀ p, H p = none → Q (.ref p) (upd H p (.lst (xs ++ zs)))) := by
  intro pins s σ H x y v u Q I rx ry ⟨l, b, xs, zs, hx, hy, hl, hb, hz, q⟩
  subst hx hy
  cases rx
  cases ry
  obtain ⟨i1, n1, r1, l1, e1⟩ := lst_obj I hl
  obtain ⟨i2, n2, r2, l2, e2⟩ := lst_obj I hb
  refine PySem.P.add_list e1 e2 ?_ (by simp only [List.size_toArray]; omega)
  have ea : i1.toArray ++ i2.toArray = (i1 ++ i2).toArray := by simp
  rw [ea]
  exact ⟨.ref _, _, I.lnew (t' := s.toks) (r1.append r2) (by simp only [List.length_append]; omega), rfl, q _ I.fresh⟩
theorem f2_add : F2 X (binaryOp .Add) bAdd := by
  refine ⟨_, op_add.or (op_catR.or (op_catA.or op_add_str)), fun F H a b va vb w Q ha hb e q => ?_⟩
  unfold bAdd at e
  split at e
  · cases e
    cases ha.int_inv
    cases hb.int_inv
    exact .inl ⟨_, _, rfl, rfl, q _ _ (.val (.int _))⟩
  · split at e
    · rename_i hz
      cases e
      obtain ⟨l, xs, rfl, h1, d1⟩ := ha
      obtain ⟨m, ys, rfl, h2, d2⟩ := hb
      refine .inr (.inl ⟨l, m, xs, ys, rfl, rfl, h1, h2, by rw [sizeLine_eq, ← d1.length, ← d2.length]; exact hz, fun p hp => q _ _ (.lst hp (d1.append d2))⟩)
    · cases e
  · split at e
    · rename_i hz
      cases e
      obtain ⟨l, xs, rfl, h1, d1⟩ := ha.tup_inv
      obtain ⟨m, ys, rfl, h2, d2⟩ := hb.tup_inv
      refine .inr (.inr (.inl ⟨l, m, xs, ys, rfl, rfl, h1, h2, by rw [sizeLine_eq, ← d1.length, ← d2.length]; exact hz, fun z => ?_, fun _ z => ?_, fun _ _ p hp => q _ _ (.tup hp (d1.append d2))⟩))
      · have z' := d1.nil_iff.mpr z
        rw [z'] at q
        exact q _ _ (.val (.tup h2 d2))
      · have z' := d2.nil_iff.mpr z
        rw [z', List.append_nil] at q
        exact q _ _ (.val (.tup h1 d1))
    · cases e
  · split at e
    · rename_i hz
      cases e
      cases ha.str_inv
      cases hb.str_inv
      exact .inr (.inr (.inr ⟨_, _, rfl, rfl, by rw [sizeLine_eq]; exact hz, q _ _ (.val (.str _))⟩))
    · cases e
  · cases e
theorem f2_sub : F2 X (binaryOp .Sub) bSub := by
  refine ⟨_, op_sub, fun F H a b va vb w Q ha hb e q => ?_⟩
  unfold bSub at e
  split at e
  · cases e
    cases ha.int_inv
    cases hb.int_inv
    exact ⟨_, _, rfl, rfl, q _ _ (.val (.int _))⟩
  · cases e
theorem f2_div : F2 X (binaryOp .FloorDiv) bDiv := by
  refine ⟨_, op_fdiv, fun F H a b va vb w Q ha hb e q => ?_⟩
  unfold bDiv at e
  split at e
  · split at e
    · rename_i h
      cases e
      cases ha.int_inv
      cases hb.int_inv
      exact ⟨_, _, rfl, rfl, h, q _ _ (.val (.int _))⟩
    · cases e
  · cases e
theorem f2_mod : F2 X (binaryOp .Mod) bMod := by
  refine ⟨_, op_mod, fun F H a b va vb w Q ha hb e q => ?_⟩
  unfold bMod at e
  split at e
  · split at e
    · rename_i h
      cases e
      cases ha.int_inv
      cases hb.int_inv
      exact ⟨_, _, rfl, rfl, h, q _ _ (.val (.int _))⟩
    · cases e
  · cases e
theorem f2_pow : F2 X (binaryOp .Pow) bPow := by
  refine ⟨_, op_pow, fun F H a b va vb w Q ha hb e q => ?_⟩
  unfold bPow at e
  split at e
  · split at e
    · rename_i h
      cases e
      cases ha.int_inv
      cases hb.int_inv
      exact ⟨_, _, rfl, rfl, ⟨h.1, h.2.1, by have := h.2.2; omega⟩, q _ _ (.val (.int _))⟩
    · cases e
  · cases e
end
end PD
set_option Elab.async false
set_option linter.all false
set_option maxRecDepth 100000
set_option maxHeartbeats 4000000
/-! PD4: products of lists and tuples, comparisons. -/
namespace PD
set_option autoImplicit false
open PySem PySem.Spec L2
open PyProof.Rows hiding St

theorem tuple_mul_one (l : Addr) (items : Array Value) (n : Nat) (dd : Option Addr) (sl : Array (Option Value)) (u : Tok) :
    Meets (Builtin.«tuple.__mul__» ⟨[.ref l, .int 1 u], []⟩) (fun _ R s => s.heap.get? l = some { cls := .type "tuple", dict := dd, data := .seq items n, slots := sl } ∧ R (.ok (.ret (Value.ref l))) s) :=
  .of_wp fun prog w A R s h => by
    obtain ⟨hp, g, d, tk, os⟩ := s
    obtain ⟨hl, h⟩ := h
    have f1 := AutoSeq1.idx_int
    wp_walk using wpAny_loadPart' hl
    repeat (first
      | (refine wpAny_ite_true (decide_eq_true (by rw [show ((1 : Int) == 1) = true from rfl, Bool.or_true])) ?_; wp_walk using wpAny_loadPart' hl)
      | (refine wpAny_ite_false (decide_eq_false (by decide)) ?_; wp_walk using wpAny_loadPart' hl))
    exact ⟨_, rfl, h⟩

section
variable {X : Cx}
/-- t * 1 is t -/
theorem op_repOne : OpR X (binaryOp .Mult) (fun x y H Q => ∃ l xs, x = .ref l ∧ y = .int 1 ∧ SqT X.K H l xs ∧ Q (.ref l) H) := by
  intro pins s σ H x y v u Q I rx ry ⟨l, xs, hx, hy, hT, q⟩
  subst hx hy
  cases rx
  obtain ⟨t, et⟩ := ry
  subst et
  obtain ⟨its, r, ⟨⟨cls, dd, data, sl⟩, ho, hc, n, hd⟩, hs⟩ := I.tuple hT
  simp only at hc hd
  subst hc hd
  exact wpAny_binaryOp_repeat_ref (T := "tuple") (U := "int") (by decide) ⟨_, ho, rfl⟩ (fun s' => typeIs_int s' 1 t) noFill_tuple_mul F.fills_int_mul F.slot_int_rmul repeat_tuple F.slot_int_index.lookup
    (call_meets F.slot_int_rmul (typeIs_int s 1 t) F.entry_int_rmul (F.args_int_rmul_2 _ _) (int_rmul_tuple 1 t l its.toArray n dd sl)
      ⟨ho, rfl, ⟨_, ho, rfl⟩, call_meets F.slot_tuple_mul ⟨_, ho, rfl⟩ F.entry_tuple_mul (F.args_tuple_mul_2 _ _) (tuple_mul_one l its.toArray n dd sl t) ⟨ho, ⟨.ref l, H, I, rfl, q⟩⟩⟩)
theorem op_repL : OpR X (binaryOp .Mult) (fun x y H Q => ∃ l k xs, x = .ref l ∧ y = .int k ∧ Rd H l (.lst xs) ∧ 0 ≤ k ∧ k ≤ 1000 ∧ xs.length ≤ 1000 ∧ ∀ p, H p = none → Q (.ref p) (upd H p (.lst (List.replicate k.toNat xs).flatten))) := by
  intro pins s σ H x y v u Q I rx ry ⟨l, k, xs, hx, hy, hL, h1, h2, hz, q⟩
  subst hx hy
  cases rx
  obtain ⟨t, et⟩ := ry
  subst et
  obtain ⟨its, n, r, hl, e⟩ := lst_obj I hL
  have hm : its.toArray.size * k.toNat ≤ 1000000 := by
    rw [List.size_toArray, ← hl]
    exact Nat.mul_le_mul hz (by omega : k.toNat ≤ 1000)
  have hm2 : its.toArray.size * k.toNat ≤ sizeLine := by rw [sizeLine_eq]; omega
  have hcap : ¬ its.toArray.size * k.toNat > (2 ^ 63 - 1) / 8 := by omega
  have hfit : ¬ (!Builtin.List.listFitsIndex k) = true := by
    rw [fitsIndex_both (by omega) (by omega)]
    decide
  have hlong : ¬ Builtin.List.listTooLong (its.toArray.size * k.toNat) = true := by
    rw [notLongL hm2]
    decide
  have hnew : List.foldl (fun x1 x2 => x1 ++ x2) #[] (List.replicate (if its.toArray.isEmpty = true then 0 else k.toNat) its.toArray) = (List.replicate k.toNat its).flatten.toArray := by
    cases its with
    | nil => simp
    | cons a b =>
      rw [if_neg (by simp)]
      have z := foldl_rep (a :: b) k.toNat []
      simpa using z
  refine wpAny_binaryOp_repeat_ref (T := "list") (U := "int") (by decide) ⟨_, e, rfl⟩ (fun s' => typeIs_int s' k t) noFill_list_mul F.fills_int_mul F.slot_int_rmul repeat_list F.slot_int_index.lookup
    (call_meets F.slot_int_rmul (typeIs_int s k t) F.entry_int_rmul (F.args_int_rmul_2 _ _) (int___rmul___int_list k t l its.toArray n)
      ⟨e, rfl, ⟨_, e, rfl⟩, call_meets F.slot_list_mul ⟨_, e, rfl⟩ F.entry_list_mul (F.args_list_mul_2 _ _) (AutoListH.list___mul___list_int_3 l its.toArray n k t hfit hcap hlong) ⟨e, ?_⟩⟩)
  rw [hnew]
  refine ⟨.ref _, _, I.lnew (t' := s.toks) (r.rep k.toNat) ?_, rfl, q _ I.fresh⟩
  rw [PyProof.Rows.lm_len_rep_flat, Nat.mul_comm, hl]
  simpa using hm2

def okMul (i j : Int) : Prop := (-18446744073709551616 < i ∧ i < 18446744073709551616) ∨ (-18446744073709551616 < j ∧ j < 18446744073709551616)
open Classical in
noncomputable def bMul : D → D → Option W
  | .int i, .int j => if okMul i j then some (.sh (.int (i * j))) else none
  | .list xs, .int k => if 0 ≤ k ∧ k ≤ 1000 ∧ xs.length ≤ 1000 then some (.fr (.list (List.replicate k.toNat xs).flatten)) else none
  | .tuple xs, .int k => if 1 ≤ k ∧ k ≤ 1000 ∧ xs.length ≤ 1000 ∧ xs ≠ [] then some (.sh (.tuple (List.replicate k.toNat xs).flatten)) else none
  | _, _ => none
theorem f2_mul : F2 X (binaryOp .Mult) bMul := by
  refine ⟨_, op_mul.or (op_repL.or (op_repT.or op_repOne)), fun F H a b va vb w Q ha hb e q => ?_⟩
  unfold bMul at e
  split at e
  · split at e
    · rename_i h
      cases e
      cases ha.int_inv
      cases hb.int_inv
      exact .inl ⟨_, _, rfl, rfl, h, q _ _ (.val (.int _))⟩
    · cases e
  · split at e
    · rename_i h
      cases e
      obtain ⟨l, xs, rfl, h1, d1⟩ := ha
      cases hb.int_inv
      exact .inr (.inl ⟨l, _, xs, rfl, rfl, h1, h.1, h.2.1, by rw [← d1.length]; exact h.2.2, fun p hp => q _ _ (.lst hp (d1.rep _))⟩)
    · cases e
  · split at e
    · rename_i k h
      cases e
      obtain ⟨l, xs, rfl, h1, d1⟩ := ha.tup_inv
      cases hb.int_inv
      by_cases hk : k = 1
      · subst hk
        refine .inr (.inr (.inr ⟨l, xs, rfl, rfl, h1, q _ _ (.val ?_)⟩))
        rw [show (1 : Int).toNat = 1 from rfl, List.replicate_one, List.flatten_cons, List.flatten_nil, List.append_nil]
        exact .tup h1 d1
      · exact .inr (.inr (.inl ⟨l, k, xs, rfl, rfl, h1, fun z => h.2.2.2 (d1.nil_iff.mpr z), by omega, h.2.1, by rw [← d1.length]; exact h.2.2.1, fun p hp => q _ _ (.tup hp (d1.rep _))⟩))
    · cases e
  · cases e
end

/-! ### comparisons by data -/
structure C2 (X : Cx) (op : CmpOp) (sem : D → D → Option Bool) : Prop where
  ex : ∃ r, OpR X (compareOp op) r ∧ ∀ (F : Rg) (H : Hp) (a b : D) (va vb : V) (k : Bool) (Q : VK), Dtop X.K F H a va → Dtop X.K F H b vb → sem a b = some k → Q (.bl k) H → r va vb H Q
def wB (sem : D → D → Option Bool) : D → D → Option W := fun a b => (sem a b).map fun k => .sh (.bool k)
def dCmp (sem : D → D → Option Bool) (fa fb : DE) : DE := dBin (wB sem) fa fb
/-- the same as a test -/
def dCmpT (sem : D → D → Option Bool) (fa fb : DE) : DT := fun ρ => (fa ρ).bind fun x => (fb x.2).bind fun y => (x.1.get y.2).bind fun a => (y.1.get y.2).bind fun b => (sem a b).map fun k => (k, y.2)
/-- a < b < c -/
def dChainT (sem sem' : D → D → Option Bool) (fa fb fc : DE) : DT := fun ρ => (fa ρ).bind fun x => (fb x.2).bind fun y => (x.1.get y.2).bind fun a => (y.1.get y.2).bind fun b => (sem a b).bind fun k =>
  if k = true then (fc y.2).bind fun z => (y.1.get z.2).bind fun b' => (z.1.get z.2).bind fun c => (sem' b' c).map fun k' => (k', z.2) else some (false, y.2)
def dOfT (f : DT) : DE := fun ρ => (f ρ).map fun x => (.sh (.bool x.1), x.2)
section
variable {X : Cx} {pos : Pos} {a b c : Expr} {fa fb fc : DE}
theorem C2.f2 {op : CmpOp} {sem : D → D → Option Bool} (h : C2 X op sem) : F2 X (compareOp op) (wB sem) := by
  obtain ⟨r, hr, hq⟩ := h.ex
  refine ⟨r, hr, fun F H a b va vb w Q ha hb e q => ?_⟩
  obtain ⟨k, e1, rfl⟩ := Option.map_eq_some_iff.mp e
  exact hq F H a b va vb k Q ha hb e1 (q _ _ (.val (.bl _)))
theorem pd_cmp {op : CmpOp} {sem : D → D → Option Bool} (ho : C2 X op sem) (ha : PED X a fa) (hb : PED X b fb) (hm : behindInMarks op b = false) : PED X (.Compare a [op] [b] pos) (dCmp sem fa fb) := fun g hg => by
  obtain ⟨r, hr, hq⟩ := ho.f2.ex
  refine (pe_cmpR hr (ha g hg) (hb g hg) hm).wk fun σ H Q t => ?_
  exact two t fun F ρ H2 da db va vb w r2 ta tb e q => hq F H2 da db va vb w Q (hg ▸ ta) (hg ▸ tb) e fun v H' n => q v H' (hg ▸ n)
/-- two expressions in a row, ahead of a test -/
theorem twoT {g : G} {sem : D → D → Option Bool} {σ : St} {H : Hp} {Q : Bool → Hp → Prop} (t : tT g (dCmpT sem fa fb) σ H Q) {R : V → V → Hp → Prop}
    (h : ∀ (F : Rg) (ρ : En) (H2 : Hp) (a b : D) (va vb : V) (k : Bool), Rel g F ρ σ H2 → Dtop g.K F H2 a va → Dtop g.K F H2 b vb → sem a b = some k → Q k H2 → R va vb H2) :
    tE g fa σ H fun x H1 => tE g fb σ H1 fun y H2 => R x y H2 := by
  obtain ⟨F, ρ, r, w, ρ', e, q⟩ := t
  unfold dCmpT at e
  obtain ⟨⟨x, ρ1⟩, e1, e⟩ := Option.bind_eq_some_iff.mp e
  obtain ⟨⟨y, ρ2⟩, e2, e⟩ := Option.bind_eq_some_iff.mp e
  obtain ⟨da, e3, e⟩ := Option.bind_eq_some_iff.mp e
  obtain ⟨db, e4, e⟩ := Option.bind_eq_some_iff.mp e
  obtain ⟨w', e5, e⟩ := Option.map_eq_some_iff.mp e
  cases e
  refine ⟨F, ρ, r, x, ρ1, e1, fun v H1 F1 p1 => ⟨F1, ρ1, p1.t.post.rel, y, ρ2, e2, fun u H2 F2 p2 => ?_⟩⟩
  have r2 := p2.t.post.rel
  exact h F2 ρ2 H2 da db v u _ r2 (RW.top r2 (p1.rw.step p1.t.post.rel p2.t) e3) (RW.top r2 p2.rw e4) e5 (q H2 F2 (p1.t.trans r p2.t))
theorem pt_cmp {op : CmpOp} {sem : D → D → Option Bool} (ho : C2 X op sem) (ha : PED X a fa) (hb : PED X b fb) (hm : behindInMarks op b = false) : PTD X (.Compare a [op] [b] pos) (dCmpT sem fa fb) := fun g hg => by
  obtain ⟨r, hr, hq⟩ := ho.ex
  refine (pt_cmpR hr (ha g hg) (hb g hg) hm).wk fun σ H Q t => ?_
  exact twoT t fun F ρ H2 da db va vb k r2 ta tb e q => hq F H2 da db va vb k _ (hg ▸ ta) (hg ▸ tb) e ⟨k, rfl, q⟩
theorem chain_ok {g : G} (hg : g.K = X.K) {sem sem' : D → D → Option Bool} {r r' : R2} (hq : ∀ (F : Rg) (H : Hp) (a b : D) (va vb : V) (k : Bool) (Q : VK), Dtop X.K F H a va → Dtop X.K F H b vb → sem a b = some k → Q (.bl k) H → r va vb H Q)
    (hq' : ∀ (F : Rg) (H : Hp) (a b : D) (va vb : V) (k : Bool) (Q : VK), Dtop X.K F H a va → Dtop X.K F H b vb → sem' a b = some k → Q (.bl k) H → r' va vb H Q) {σ : St} {H : Hp} {Q : Bool → Hp → Prop} {Q' : VK} (hQ : ∀ k H, Q k H → Q' (.bl k) H)
    (t : tT g (dChainT sem sem' fa fb fc) σ H Q) : tChain r r' (tE g fa) (tE g fb) (tE g fc) σ H Q' := by
  obtain ⟨F, ρ, r, w, ρ', e, q⟩ := t
  unfold dChainT at e
  obtain ⟨⟨x, ρ1⟩, e1, e⟩ := Option.bind_eq_some_iff.mp e
  obtain ⟨⟨y, ρ2⟩, e2, e⟩ := Option.bind_eq_some_iff.mp e
  obtain ⟨da, e3, e⟩ := Option.bind_eq_some_iff.mp e
  obtain ⟨db, e4, e⟩ := Option.bind_eq_some_iff.mp e
  obtain ⟨k, e5, e⟩ := Option.bind_eq_some_iff.mp e
  refine ⟨F, ρ, r, x, ρ1, e1, fun v H1 F1 p1 => ⟨F1, ρ1, p1.t.post.rel, y, ρ2, e2, fun u H2 F2 p2 => ?_⟩⟩
  have r2 := p2.t.post.rel
  refine hq F2 H2 da db v u k _ (hg ▸ RW.top r2 (p1.rw.step p1.t.post.rel p2.t) e3) (hg ▸ RW.top r2 p2.rw e4) e5 ⟨k, rfl, ?_⟩
  cases k with
  | false =>
    rw [if_neg (by decide)] at e
    cases e
    rw [if_neg (by decide)]
    exact hQ _ _ (q H2 F2 (p1.t.trans r p2.t))
  | true =>
    rw [if_pos rfl] at e
    obtain ⟨⟨z, ρ3⟩, e6, e⟩ := Option.bind_eq_some_iff.mp e
    obtain ⟨db', e7, e⟩ := Option.bind_eq_some_iff.mp e
    obtain ⟨dc, e8, e⟩ := Option.bind_eq_some_iff.mp e
    obtain ⟨k', e9, e⟩ := Option.map_eq_some_iff.mp e
    cases e
    rw [if_pos rfl]
    refine ⟨F2, ρ2, r2, z, ρ3, e6, fun w' H3 F3 p3 => ?_⟩
    have r3 := p3.t.post.rel
    exact hq' F3 H3 db' dc u w' _ Q' (hg ▸ RW.top r3 (p2.rw.step r2 p3.t) e7) (hg ▸ RW.top r3 p3.rw e8) e9 (hQ _ _ (q H3 F3 (p1.t.trans r (p2.t.trans p1.t.post.rel p3.t))))
theorem pt_chain {op op' : CmpOp} {sem sem' : D → D → Option Bool} (ho : C2 X op sem) (ho' : C2 X op' sem') (ha : PED X a fa) (hb : PED X b fb) (hc : PED X c fc) (hm : lastMarks [op, op'] [b, c] = false := by rfl) : PTD X (.Compare a [op, op'] [b, c] pos) (dChainT sem sem' fa fb fc) := fun g hg => by
  obtain ⟨r, hr, hq⟩ := ho.ex
  obtain ⟨r', hr', hq'⟩ := ho'.ex
  refine (L2.pt_chain hr hr' (ha g hg) (hb g hg) (hc g hg) hm).wk fun σ H Q t => ?_
  exact chain_ok hg hq hq' (Q' := fun x H' => ∃ k, x = .bl k ∧ Q k H') (fun k H h => ⟨k, rfl, h⟩) t
theorem pd_chain {op op' : CmpOp} {sem sem' : D → D → Option Bool} (ho : C2 X op sem) (ho' : C2 X op' sem') (ha : PED X a fa) (hb : PED X b fb) (hc : PED X c fc) (hm : lastMarks [op, op'] [b, c] = false := by rfl) : PED X (.Compare a [op, op'] [b, c] pos) (dOfT (dChainT sem sem' fa fb fc)) := fun g hg => by
  obtain ⟨r, hr, hq⟩ := ho.ex
  obtain ⟨r', hr', hq'⟩ := ho'.ex
  refine (L2.pe_chain hr hr' (ha g hg) (hb g hg) (hc g hg) hm).wk fun σ H Q t => ?_
  obtain ⟨F, ρ, r0, w, ρ', e, q⟩ := t
  obtain ⟨⟨k, ρ2⟩, e1, e⟩ := Option.map_eq_some_iff.mp e
  cases e
  refine chain_ok hg hq hq' (Q := fun k' H' => k' = k ∧ ∃ F', TPo g F ρ σ H F' ρ2 H') (fun k' H' h => ?_) ⟨F, ρ, r0, k, ρ2, e1, fun H' F' p => ⟨rfl, F', p⟩⟩
  obtain ⟨rfl, F', p⟩ := h
  exact q _ _ F' ⟨p, .bl _, fun a z => by obtain ⟨⟨_, z⟩, _⟩ := z; cases z⟩
end

def ints? : List D → Option (List Int)
  | [] => some []
  | .int i :: r => (ints? r).map (i :: ·)
  | _ => none
theorem ints?_some : ∀ {ds : List D} {ns : List Int}, ints? ds = some ns → ds = ns.map PyData.int
  | [], _, h => by cases h; rfl
  | .int i :: r, ns, h => by
    obtain ⟨ms, e1, e2⟩ := Option.map_eq_some_iff.mp h
    rw [ints?_some e1, ← e2]
    rfl
  | .none :: _, _, h => by cases h
  | .bool _ :: _, _, h => by cases h
  | .str _ :: _, _, h => by cases h
  | .list _ :: _, _, h => by cases h
  | .tuple _ :: _, _, h => by cases h
  | .dict _ :: _, _, h => by cases h
theorem ints?_map : ∀ ns : List Int, ints? (ns.map PyData.int) = some ns
  | [] => rfl
  | n :: ns => by rw [List.map_cons, ints?, ints?_map ns]; rfl

def cLt : D → D → Option Bool
  | .int i, .int j => some (decide (i < j))
  | .tuple xs, .tuple ys => (ints? xs).bind fun ns => (ints? ys).map fun ms => HT.lexLt ns ms
  | _, _ => none
def cI (p : Int → Int → Bool) : D → D → Option Bool
  | .int i, .int j => some (p i j)
  | _, _ => none
def cLe : D → D → Option Bool := cI fun i j => decide (i ≤ j)
def cGt : D → D → Option Bool := cI fun i j => decide (j < i)
def cGe : D → D → Option Bool := cI fun i j => decide (j ≤ i)
def cEq : D → D → Option Bool := fun a b => if SeqAt.shaped a = true ∧ SeqAt.shaped b = true then some (PyData.eqv a b) else none
def cNe : D → D → Option Bool := fun a b => if SeqAt.shaped a = true ∧ SeqAt.shaped b = true then some (!PyData.eqv a b) else none
def cIs : D → D → Option Bool
  | .none, .none => some true
  | _, .none => some false
  | .bool a, .bool b => some (decide (a = b))
  | _, _ => none
def cIsNot : D → D → Option Bool
  | .none, .none => some false
  | _, .none => some true
  | .bool a, .bool b => some (!decide (a = b))
  | _, _ => none
section
variable {X : Cx}
theorem c2_int {op : CmpOp} {p : Int → Int → Bool} (h : OpR X (compareOp op) (rI0 fun i j => .bl (p i j))) : C2 X op (cI p) := by
  refine ⟨_, h, fun F H a b va vb k Q ha hb e q => ?_⟩
  unfold cI at e
  split at e
  · cases e
    cases ha.int_inv
    cases hb.int_inv
    exact ⟨_, _, rfl, rfl, q⟩
  · cases e
theorem c2_le : C2 X .LtE cLe := c2_int op_le
theorem c2_gt : C2 X .Gt cGt := c2_int op_gt
theorem c2_ge : C2 X .GtE cGe := c2_int op_ge
theorem c2_lt (hu : X.A.units < cLine) : C2 X .Lt cLt := by
  refine ⟨_, op_lt.or (op_ltT hu), fun F H a b va vb k Q ha hb e q => ?_⟩
  unfold cLt at e
  split at e
  · cases e
    cases ha.int_inv
    cases hb.int_inv
    exact .inl ⟨_, _, rfl, rfl, q⟩
  · obtain ⟨ns, e1, e⟩ := Option.bind_eq_some_iff.mp e
    obtain ⟨ms, e2, e⟩ := Option.map_eq_some_iff.mp e
    subst e
    obtain ⟨l, xs, rfl, h1, d1⟩ := ha.tup_inv
    obtain ⟨m, ys, rfl, h2, d2⟩ := hb.tup_inv
    rw [ints?_some e1] at d1
    rw [ints?_some e2] at d2
    rw [d1.ints] at h1
    rw [d2.ints] at h2
    exact .inr ⟨l, m, ns, ms, rfl, rfl, h1, h2, q⟩
  · cases e
theorem c2_eq (hu : X.A.units + 64 < cLine) : C2 X .Eq cEq := by
  refine ⟨_, op_eqD hu, fun F H a b va vb k Q ha hb e q => ?_⟩
  unfold cEq at e
  split at e
  · rename_i h
    cases e
    exact ⟨a, b, ha.all.dp h.1, hb.all.dp h.2, h.1, h.2, q⟩
  · cases e
theorem c2_ne (hu : X.A.units + 64 < cLine) : C2 X .NotEq cNe := by
  refine ⟨_, op_neD hu, fun F H a b va vb k Q ha hb e q => ?_⟩
  unfold cNe at e
  split at e
  · rename_i h
    cases e
    exact ⟨a, b, ha.all.dp h.1, hb.all.dp h.2, h.1, h.2, q⟩
  · cases e
theorem non_iff {K : PySem.W.Frag} {F : Rg} {H : Hp} {d : D} {v : V} (h : Dtop K F H d v) : v = .non ↔ d = .none := by
  have h := h.all
  cases h <;> simp
theorem c2_is : C2 X .Is cIs := by
  refine ⟨_, op_isN.or op_is_bl, fun F H a b va vb k Q ha hb e q => ?_⟩
  have hn := non_iff ha
  unfold cIs at e
  split at e
  · cases e
    refine .inl ⟨(non_iff hb).mpr rfl, ?_⟩
    rw [decide_eq_true (hn.mpr rfl)]
    exact q
  · rename_i z
    cases e
    refine .inl ⟨(non_iff hb).mpr rfl, ?_⟩
    rw [decide_eq_false (fun h => z (hn.mp h))]
    exact q
  · cases e
    cases ha.bool_inv
    cases hb.bool_inv
    exact .inr ⟨_, _, rfl, rfl, q⟩
  · cases e
theorem c2_isNot : C2 X .IsNot cIsNot := by
  refine ⟨_, op_notN.or op_isnot_bl, fun F H a b va vb k Q ha hb e q => ?_⟩
  have hn := non_iff ha
  unfold cIsNot at e
  split at e
  · cases e
    refine .inl ⟨(non_iff hb).mpr rfl, ?_⟩
    rw [decide_eq_true (hn.mpr rfl)]
    exact q
  · rename_i z
    cases e
    refine .inl ⟨(non_iff hb).mpr rfl, ?_⟩
    rw [decide_eq_false (fun h => z (hn.mp h))]
    exact q
  · cases e
    cases ha.bool_inv
    cases hb.bool_inv
    exact .inr ⟨_, _, rfl, rfl, q⟩
  · cases e
end
end PD
set_option Elab.async false
set_option linter.all false
set_option maxRecDepth 100000
set_option maxHeartbeats 4000000
/-! PDT: dicts whose keys are tuples of whole numbers: what the model does with them. -/
namespace PD
set_option autoImplicit false
open PySem PySem.Spec L2
open PyProof.Rows hiding St

abbrev tkd (P : Program) (w : World) : HeapKind P w (List Int) := tupleKind (intKind P w)
theorem entT3_eq (P : Program) (w : World) (x : TE3) : entryOfKey (tkd P w) x = entT3 x := rfl
section
variable {X : Cx} {pins : List (Addr × Obj)} {σ : St} {H : Hp} {s : Shared} {a b : Addr} {es : List TE3}
theorem td_rd (I : Inv X pins σ H s) (e : Rd H a (tdO a es)) : tdOk a es s.heap := by
  rcases e with e | ⟨o, e⟩
  · exact (show ObjOk X.prog X.w H s.heap a (tdO a es) from I.hok a _ e).1
  · exact (show ObjOk X.prog X.w H s.heap a (tdO a es) from (I.hok a _ e).2).1
theorem tkey (I : Inv X pins σ H s) {k : List Int} (h : SqT X.K H b (k.map V.int)) : (tkd X.prog X.w).is s.heap k b := by
  obtain ⟨its, rv, ⟨o, ho, hc, n, hd⟩, _⟩ := I.tuple h
  refine ⟨o, its.toArray, n, ho, hc, hd, ?_⟩
  have key : ∀ {k : List Int} {us : List Value}, Vals (k.map V.int) us → ItemsAre (intKind X.prog X.w) k us := by
    intro k
    induction k with
    | nil => intro us r; rw [List.map_nil] at r; cases r; exact .nil
    | cons n k ih =>
      intro us r
      rw [List.map_cons] at r
      cases r with
      | cons h t =>
        obtain ⟨t', rfl⟩ := h
        exact .cons (by show Value.isInt n (.int n t') = true; simp [Value.isInt]) (ih t)
  simpa using key rv
/-- the keys are readable -/
def TKeys (K : PySem.W.Frag) (H : Hp) (es : List TE3) : Prop := ∀ e ∈ es, SqT K H e.2.1 (e.1.map V.int)
theorem td_of (I : Inv X pins σ H s) (e : Rd H a (tdO a es)) (k : TKeys X.K H es) : es.length ≤ sizeLine ∧ (a == sysModules) = false ∧ s.heap.DictOfH (tkd X.prog X.w) a es := by
  obtain ⟨h1, h2, h3, o, ens, ep, h4, h5, h6, h7⟩ := td_rd I e
  exact ⟨h2, h1, o, ens, ep, h4, h5, h6, h7, fun x hx => tkey I (k x hx), h3⟩
/-- what the dict at a holds at the tuple y -/
def TGet (K : PySem.W.Frag) (H : Hp) (a : Addr) (y : V) (r : Option V) : Prop :=
  ∃ es k b, Rd H a (tdO a es) ∧ TKeys K H es ∧ y = .ref b ∧ SqT K H b (k.map V.int) ∧ RelO r ((atKey es k).map (·.2))
def TIsD (K : PySem.W.Frag) (H : Hp) (a : Addr) : Prop := ∃ es, Rd H a (tdO a es) ∧ TKeys K H es
theorem tisD_at (I : Inv X pins σ H s) (d : TIsD X.K H a) :
    s.TypeIs (.ref a) "dict" ∧ (∀ b, Value.ref a = .ref b → ∃ ob, s.heap.get? b = some ob ∧ ob.dict = none) ∧ (a == sysModules) = false := by
  obtain ⟨es, e, k⟩ := d
  obtain ⟨_, hd, dd⟩ := td_of I e k
  refine ⟨dd.typeIs, fun b q => ?_, hd⟩
  cases q
  obtain ⟨ob, _, _, h1, h2, _⟩ := dd
  exact ⟨ob, h1, h2.2.1⟩
variable {A : Around} {E : Value → Shared → Prop} {y v d : V} {u r : Value} {o : Option V}
theorem t_getItem {Q : Value → Shared → Prop} (hu : A.units + 1 < cLine) (I : Inv X pins σ H s) (g : TGet X.K H a y (some v)) (ry : RelV y u) (h : ∀ w' s', Inv X pins σ H s' → RelV v w' → Q w' s') :
    wpAny (model X.prog X.w) A (getItem (.ref a) u) Q E s := by
  obtain ⟨es, k, b, e, hk, ey, eb, l⟩ := g
  subst ey
  cases (show u = Value.ref b from ry)
  obtain ⟨z, hd, dd⟩ := td_of I e hk
  obtain ⟨w', hw, rw'⟩ := RelO.some_of (v := v) (o := (atKey es k).map (·.2)) l
  obtain ⟨p, hp, hp2⟩ := Option.map_eq_some_iff.mp hw
  refine wpAny_getItem_heap (tupleKind_room_in1 hu) (tkey I eb) dd hp ?_
  rw [hp2]
  exact h w' _ (I.tok _) rw'
theorem t_in {Q : Value → Shared → Prop} (hu : A.units + 1 < cLine) (I : Inv X pins σ H s) (g : TGet X.K H a y o) (ry : RelV y u) (h : ∀ s', Inv X pins σ H s' → Q (.bool o.isSome) s') :
    wpAny (model X.prog X.w) A (compareOp .In u (.ref a)) Q E s := by
  obtain ⟨es, k, b, e, hk, ey, eb, l⟩ := g
  subst ey
  cases (show u = Value.ref b from ry)
  obtain ⟨z, hd, dd⟩ := td_of I e hk
  refine wpAny_in_heap (tupleKind_room_in1 hu) (tkey I eb) hd dd ?_
  have q := l.isSome_eq
  rw [Option.isSome_map] at q
  rw [← q]
  exact h _ (I.tok _)
theorem t_notIn {Q : Value → Shared → Prop} (hu : A.units + 1 < cLine) (I : Inv X pins σ H s) (g : TGet X.K H a y o) (ry : RelV y u) (h : ∀ s', Inv X pins σ H s' → Q (.bool (!o.isSome)) s') :
    wpAny (model X.prog X.w) A (compareOp .NotIn u (.ref a)) Q E s := by
  obtain ⟨es, k, b, e, hk, ey, eb, l⟩ := g
  subst ey
  cases (show u = Value.ref b from ry)
  obtain ⟨z, hd, dd⟩ := td_of I e hk
  refine wpAny_notIn_heap (tupleKind_room_in1 hu) (tkey I eb) hd dd ?_
  have q := l.isSome_eq
  rw [Option.isSome_map] at q
  rw [← q]
  exact h _ (I.tok _)
theorem t_get1 {Q : Value → Shared → Prop} (hu : A.units + 1 < cLine) (I : Inv X pins σ H s) (g : TGet X.K H a y o) (ry : RelV y u) (h : ∀ w' s', Inv X pins σ H s' → RelV (o.getD .non) w' → Q w' s') :
    wpAny (model X.prog X.w) A (call (.builtin "dict.get") [.ref a, u]) Q E s := by
  obtain ⟨es, k, b, e, hk, ey, eb, l⟩ := g
  subst ey
  cases (show u = Value.ref b from ry)
  obtain ⟨z, hd, dd⟩ := td_of I e hk
  exact call_meetsIn PySem.F.slot_dict_get dd.typeIs PySem.F.entry_dict_get (PySem.F.args_dict_get_2 _ _) (meetsH_dict_get (tkd X.prog X.w) a b hd) ⟨tupleKind_room_in1 hu, k, es, tkey I eb, dd, h _ _ (I.tok _) (l.getD rfl)⟩
theorem t_get2 {Q : Value → Shared → Prop} (hu : A.units + 1 < cLine) (I : Inv X pins σ H s) (g : TGet X.K H a y o) (ry : RelV y u) (rd : RelV d r) (h : ∀ w' s', Inv X pins σ H s' → RelV (o.getD d) w' → Q w' s') :
    wpAny (model X.prog X.w) A (call (.builtin "dict.get") [.ref a, u, r]) Q E s := by
  obtain ⟨es, k, b, e, hk, ey, eb, l⟩ := g
  subst ey
  cases (show u = Value.ref b from ry)
  obtain ⟨z, hd, dd⟩ := td_of I e hk
  exact call_meetsIn PySem.F.slot_dict_get dd.typeIs PySem.F.entry_dict_get (PySem.F.args_dict_get_3 _ _ _) (meetsH_dict_get_default (tkd X.prog X.w) a b hd r) ⟨tupleKind_room_in1 hu, k, es, tkey I eb, dd, h _ _ (I.tok _) (l.getD rd)⟩
/-- the object behind a change -/
theorem td_new {P : Program} {w : World} {H' : Hp} {h' : Heap} (z : es.length ≤ sizeLine) (hd : (a == sysModules) = false) (dd : h'.DictOfH (tkd P w) a es) : ObjOk P w H' h' a (tdO a es) := by
  obtain ⟨o, ens, ep, h4, h5, h6, h7, _, h3⟩ := dd
  refine ⟨⟨hd, z, h3, o, ens, ep, h4, h5, h6, h7⟩, ⟨o, h4⟩, fun h1 h2 q k => ?_⟩
  obtain ⟨q1, q2, q3, o', ens', ep', q4, q5⟩ := q
  exact ⟨q1, q2, q3, o', ens', ep', k _ q4, q5⟩
theorem length_storedH (es : List TE3) (k : List Int) (b : Addr) (u : Value) : (storedH es k b u).length ≤ es.length + 1 := by
  unfold storedH
  split
  · rw [List.length_map]; omega
  · rw [List.length_append, List.length_singleton]; exact Nat.le_refl _
/-- d[y] = v -/
theorem t_setItem {k : List Int} {Q : Unit → Shared → Prop} (hu : A.units + 1 < cLine) (I : Inv X pins σ H s) (e : H a = some (tdO a es)) (hk : TKeys X.K H es) (eb : SqT X.K H b (k.map V.int)) (hl : es.length < sizeLine)
    (h : ∀ s', Inv X pins σ (upd H a (tdO a (storedH es k b r))) s' → Q () s') :
    wpAny (model X.prog X.w) A (setItem (.ref a) (.ref b) r) Q E s := by
  obtain ⟨z, hd, dd⟩ := td_of I (.inl e) hk
  refine wpAny_setItem_heap (hsz := z) (tupleKind_room_in1 hu) (tkey I eb) dd fun h' dd' hs => h _ ?_
  have he : ∃ q, h'.get? a = some q := let ⟨q, _, _, hq, _⟩ := dd'; ⟨q, hq⟩
  refine d_write I (by rw [e]; exact True.intro) hs he (td_new ?_ hd dd')
  have := length_storedH es k b r
  omega
/-- len(d) -/
theorem t_len {Q : Value → Shared → Prop} (I : Inv X pins σ H s) (e : Rd H a (tdO a es)) (k : TKeys X.K H es) (h : ∀ t s', Inv X pins σ H s' → Q (.int es.length t) s') : wpAny (model X.prog X.w) A (call (.builtin "len") [.ref a]) Q E s := by
  obtain ⟨z, hd, dd⟩ := td_of I e k
  exact PySem.call_len_dictH hd dd (by rw [sizeLine_eq] at z; omega) (h _ _ (I.tok _))
theorem td_empty {P : Program} {w : World} {H : Hp} (h : Heap) (hb : sysModules < h.objs.size) : ObjOk P w H (h.push { cls := .type "dict", data := .dict #[] }) h.objs.size (tdO h.objs.size []) :=
  td_new (Nat.zero_le _) (beq_eq_false_iff_ne.mpr (Nat.ne_of_gt hb)) (Heap.DictOfH.new h)
end
/-- {} for tuple keys -/
def tDNewX : TE := fun _ H Q => ∀ p, H p = none → Q (.ref p) (upd H p (tdO p []))
section
variable {X : Cx} {pos apos cpos : Pos} {o e f : Expr} {td ty tx : TE}
theorem pe_dnewX : PE X (.Dict [] [] pos) tDNewX := ⟨fun pins s σ H Q I h =>
  wpAny_Dict_empty ⟨.ref s.heap.objs.size, _, I.laid (a := s.heap.objs.size) (o := tdO s.heap.objs.size []) (t' := s.toks) (fun _ _ q => Heap.get?_push_of_some _ q) (Nat.le_refl _) (td_empty s.heap I.big), rfl, h _ (I.hok.fresh (Nat.le_refl _))⟩⟩
def tTGet1 (K : PySem.W.Frag) (td ty : TE) : TE := fun σ H Q => td σ H fun x H1 => ∃ a, x = .ref a ∧ TIsD K H1 a ∧ ty σ H1 fun y H2 => ∃ o, TGet K H2 a y o ∧ Q (o.getD .non) H2
def tTGet2 (K : PySem.W.Frag) (td ty tx : TE) : TE := fun σ H Q => td σ H fun x H1 => ∃ a, x = .ref a ∧ TIsD K H1 a ∧ ty σ H1 fun y H2 => tx σ H2 fun z H3 => ∃ o, TGet K H3 a y o ∧ Q (o.getD z) H3
theorem pe_tget1 (hu : X.A.units + 1 < cLine) (ho : PE X o td) (he : PE X e ty) (m : M1 X o "get" apos e cpos) : PE X (.Call (.Attribute o "get" apos) [e] [] cpos) (tTGet1 X.K td ty) := by
  refine ⟨fun pins s σ H Q I h => ?_⟩
  refine wpAny_Call_method m.base m.few m.line PySem.F.plainAttrs_dict PySem.F.slot_dict_get PySem.F.type_dict_get (thn (ho.run pins s σ H _ I h) fun u s1 ⟨x, H1, I1, rx, a, ex, d, q1⟩ => ?_)
  subst ex
  obtain rfl : u = Value.ref a := rx
  obtain ⟨t1, t2, _⟩ := tisD_at I1 d
  refine ⟨t1, t2, ?_⟩
  rw [m.trees]
  refine Calls.callWith_builtin rfl (Calls.evalArgs_plain (Calls.spliced_cons (thn (he.run pins s1 σ H1 _ I1 q1) fun iv s2 ⟨y, H2, I2, ry, ov, g, q2⟩ => Calls.spliced_nil ?_)))
  exact t_get1 hu I2 g ry fun w' s3 I3 rw' => ⟨_, H2, I3, rw', q2⟩
theorem pe_tget2 (hu : X.A.units + 1 < cLine) (ho : PE X o td) (he : PE X e ty) (hf : PE X f tx) (m : M2 X o "get" apos e f cpos) : PE X (.Call (.Attribute o "get" apos) [e, f] [] cpos) (tTGet2 X.K td ty tx) := by
  refine ⟨fun pins s σ H Q I h => ?_⟩
  refine wpAny_Call_method m.base m.few m.line PySem.F.plainAttrs_dict PySem.F.slot_dict_get PySem.F.type_dict_get (thn (ho.run pins s σ H _ I h) fun u s1 ⟨x, H1, I1, rx, a, ex, d, q1⟩ => ?_)
  subst ex
  obtain rfl : u = Value.ref a := rx
  obtain ⟨t1, t2, _⟩ := tisD_at I1 d
  refine ⟨t1, t2, ?_⟩
  rw [m.trees]
  refine Calls.callWith_builtin rfl (Calls.evalArgs_plain (Calls.spliced_cons (thn (he.run pins s1 σ H1 _ I1 q1) fun iv s2 ⟨y, H2, I2, ry, q2⟩ =>
    Calls.spliced_cons (thn (hf.run pins s2 σ H2 _ I2 q2) fun fv s3 ⟨z, H3, I3, rz, ov, g, q3⟩ => Calls.spliced_nil ?_))))
  exact t_get2 hu I3 g ry rz fun w' s4 I4 rw' => ⟨_, H3, I4, rw', q3⟩
theorem ix_td (hu : X.A.units + 1 < cLine) : IxR X (fun x y H Q => ∃ l v, x = .ref l ∧ TGet X.K H l y (some v) ∧ Q v H) := by
  intro value slice pins s σ H x y v u Q I rx ry ⟨l, z, hx, hg, q⟩ hs
  subst hx
  cases rx
  have hd : TIsD X.K H l := let ⟨es, k, b, e, hk, _⟩ := hg; ⟨es, e, hk⟩
  refine tail_any (tisD_at I hd).1 PySem.F.slot_dict_getitem.lookup ?_ hs
  exact t_getItem hu I hg ry fun w' s' I' r' => ⟨z, H, I', r', q⟩
theorem op_inT (hu : X.A.units + 1 < cLine) : OpR X (compareOp .In) (fun x y H Q => ∃ a o, y = .ref a ∧ TGet X.K H a x o ∧ Q (.bl o.isSome) H) := by
  intro pins s σ H x y v u Q I rx ry ⟨a, o, hy, g, q⟩
  subst hy
  cases ry
  exact t_in hu I g rx fun s' I' => ⟨.bl _, H, I', rfl, q⟩
theorem op_notInT (hu : X.A.units + 1 < cLine) : OpR X (compareOp .NotIn) (fun x y H Q => ∃ a o, y = .ref a ∧ TGet X.K H a x o ∧ Q (.bl (!o.isSome)) H) := by
  intro pins s σ H x y v u Q I rx ry ⟨a, o, hy, g, q⟩
  subst hy
  cases ry
  exact t_notIn hu I g rx fun s' I' => ⟨.bl _, H, I', rfl, q⟩
theorem op_inK (hu : X.A.units + 1 < cLine) : OpR X (compareOp .In) (fun x y H Q => ∃ a o, y = .ref a ∧ DGet H a x o ∧ Q (.bl o.isSome) H) := by
  intro pins s σ H x y v u Q I rx ry ⟨a, o, hy, g, q⟩
  subst hy
  cases ry
  exact d_in hu I g rx fun s' I' => ⟨.bl _, H, I', rfl, q⟩
theorem op_notInK (hu : X.A.units + 1 < cLine) : OpR X (compareOp .NotIn) (fun x y H Q => ∃ a o, y = .ref a ∧ DGet H a x o ∧ Q (.bl (!o.isSome)) H) := by
  intro pins s σ H x y v u Q I rx ry ⟨a, o, hy, g, q⟩
  subst hy
  cases ry
  exact d_notIn hu I g rx fun s' I' => ⟨.bl _, H, I', rfl, q⟩
theorem call_len_td : CallR X (.builtin "len") (fun xs H Q => ∃ a es, xs = [V.ref a] ∧ Rd H a (tdO a es) ∧ TKeys X.K H es ∧ Q (.int es.length) H) := by
  intro pins s σ H xs us Q I r ⟨a, es, hx, hr, hk, q⟩
  subst hx
  obtain ⟨u, hu, ru⟩ := vals1 r
  subst hu
  cases ru
  exact t_len I hr hk fun t s' I' => ⟨.int _, H, I', ⟨t, rfl⟩, q⟩
/-- x in l, x in t -/
theorem op_inD2 (hu : X.A.units + 65 < cLine) : OpR X (compareOp .In) (fun x y H Q => ∃ d ds, Dp X.K H x d ∧ Dp X.K H y (.tuple ds) ∧ SeqAt.shaped d = true ∧ SeqAt.shaped (.tuple ds) = true ∧ Q (.bl (ds.any fun z => PyData.eqv z d)) H) := by
  intro pins s σ H x y v u Q I rx ry h
  obtain ⟨d, ds, hd, he, sd, se, q⟩ := h
  obtain ⟨as, r1⟩ := Dp.reads I d x v hd rx
  obtain ⟨bs, r2⟩ := Dp.reads I (.tuple ds) y u he ry
  exact SeqAt.in_tuple_reads r2 r1 (SeqAt.canLay_of_shaped se) (SeqAt.canLay_of_shaped sd) (room_in_shaped sd hu) ⟨.bl _, H, I, rfl, q⟩
theorem op_notInD2 (hu : X.A.units + 65 < cLine) : OpR X (compareOp .NotIn) (fun x y H Q => ∃ d ds, Dp X.K H x d ∧ Dp X.K H y (.tuple ds) ∧ SeqAt.shaped d = true ∧ SeqAt.shaped (.tuple ds) = true ∧ Q (.bl (!ds.any fun z => PyData.eqv z d)) H) := by
  intro pins s σ H x y v u Q I rx ry h
  obtain ⟨d, ds, hd, he, sd, se, q⟩ := h
  obtain ⟨as, r1⟩ := Dp.reads I d x v hd rx
  obtain ⟨bs, r2⟩ := Dp.reads I (.tuple ds) y u he ry
  exact SeqAt.notIn_tuple_reads r2 r1 (SeqAt.canLay_of_shaped se) (SeqAt.canLay_of_shaped sd) (room_in_shaped sd hu) ⟨.bl _, H, I, rfl, q⟩
end
end PD
set_option Elab.async false
set_option linter.all false
set_option maxRecDepth 100000
set_option maxHeartbeats 4000000
/-! PD5: truth, and | or | not, conditional expressions, arguments, displays, subscripts, slices. -/
namespace PD
set_option autoImplicit false
open PySem PySem.Spec L2
open PyProof.Rows hiding St

/-- truth by data -/
def dTru : D → Option Bool
  | .none => some false
  | .bool b => some b
  | .int i => some (i != 0)
  | .str x => if x.length ≤ 16777216 then some ((x.length : Int) != 0) else none
  | .list xs => some (!xs.isEmpty)
  | .tuple xs => some (!xs.isEmpty)
  | .dict _ => none
section
variable {K : PySem.W.Frag} {F : Rg} {H : Hp}
theorem Dts.isEmpty {ds : List D} {vs : List V} (h : Dts K F H ds vs) : ds.isEmpty = vs.isEmpty := by
  cases h <;> rfl
theorem truV_of {d : D} {v : V} {k : Bool} (h : Dtop K F H d v) (e : dTru d = some k) : TruV K v H k := by
  cases d with
  | none => cases e; cases (show Dt K F H .none v from h); rfl
  | bool b => cases e; cases h.bool_inv; rfl
  | int i => cases e; cases h.int_inv; rfl
  | str x =>
    cases h.str_inv
    unfold dTru at e
    simp only at e
    split at e
    · rename_i hz
      cases e
      exact ⟨by rw [sizeLine_eq]; exact hz, rfl⟩
    · cases e
  | list ds =>
    cases e
    obtain ⟨a, xs, rfl, r, h⟩ := h
    exact .inl ⟨xs, .inl r, by rw [h.isEmpty]⟩
  | tuple ds =>
    cases e
    obtain ⟨a, xs, rfl, r, h⟩ := h.tup_inv
    exact .inr (.inl ⟨xs, r, by rw [h.isEmpty]⟩)
  | dict ds => cases e
end

def dTruT (fa : DE) : DT := fun ρ => (fa ρ).bind fun x => (x.1.get x.2).bind fun a => (dTru a).map fun k => (k, x.2)
def dAndT (f f' : DT) : DT := fun ρ => (f ρ).bind fun x => if x.1 = true then f' x.2 else some (false, x.2)
def dOrT (f f' : DT) : DT := fun ρ => (f ρ).bind fun x => if x.1 = true then some (true, x.2) else f' x.2
def dNotT (f : DT) : DT := fun ρ => (f ρ).map fun x => (!x.1, x.2)
/-- x and y, x or y as values: x a bool -/
def dAndV (fa fb : DE) : DE := fun ρ => (fa ρ).bind fun x => match x.1 with
  | .sh (.bool true) => fb x.2
  | .sh (.bool false) => some (.sh (.bool false), x.2)
  | _ => none
def dOrV (fa fb : DE) : DE := fun ρ => (fa ρ).bind fun x => match x.1 with
  | .sh (.bool false) => fb x.2
  | .sh (.bool true) => some (.sh (.bool true), x.2)
  | _ => none
def dNotV (fa : DE) : DE := fun ρ => (fa ρ).bind fun x => (x.1.get x.2).bind fun a => (dTru a).map fun k => (.sh (.bool (!k)), x.2)
def dIf (ft : DT) (fa fb : DE) : DE := fun ρ => (ft ρ).bind fun x => if x.1 = true then fa x.2 else fb x.2
def dNeg (fa : DE) : DE := fun ρ => (fa ρ).bind fun x => match x.1 with
  | .sh (.int i) => some (.sh (.int (-i)), x.2)
  | _ => none

section
variable {X : Cx} {pos : Pos} {a b c : Expr} {fa fb fc : DE} {ft fu : DT} {rest : List Expr}
theorem pt_tru (ha : PED X a fa) (he : ∀ whole, isTrue a X.env whole = (do let v ← whole; standAt a.pos; holding [v] (truthy v)) := by intro _; rfl) : PTD X a (dTruT fa) := fun g hg => by
  refine (pt_truth (ha g hg) he).wk fun σ H Q t => ?_
  obtain ⟨F, ρ, r, w, ρ', e, q⟩ := t
  obtain ⟨⟨x, ρ1⟩, e1, e⟩ := Option.bind_eq_some_iff.mp e
  obtain ⟨d, e2, e⟩ := Option.bind_eq_some_iff.mp e
  obtain ⟨k, e3, e⟩ := Option.map_eq_some_iff.mp e
  cases e
  exact ⟨F, ρ, r, x, ρ1, e1, fun v H1 F1 p1 => ⟨_, hg ▸ truV_of (RW.top p1.t.post.rel p1.rw e2) e3, q H1 F1 p1.t⟩⟩
theorem and_ok {g : G} {σ : St} {H : Hp} {Q : Bool → Hp → Prop} (t : tT g (dAndT ft fu) σ H Q) : tAnd (tT g ft) (tT g fu) σ H Q := by
  obtain ⟨F, ρ, r, w, ρ', e, q⟩ := t
  obtain ⟨⟨x, ρ1⟩, e1, e⟩ := Option.bind_eq_some_iff.mp e
  refine ⟨F, ρ, r, x, ρ1, e1, fun H1 F1 p1 => ?_⟩
  cases x with
  | true => exact ⟨F1, ρ1, p1.post.rel, w, ρ', e, fun H2 F2 p2 => q H2 F2 (p1.trans r p2)⟩
  | false => cases e; exact q H1 F1 p1
theorem or_ok {g : G} {σ : St} {H : Hp} {Q : Bool → Hp → Prop} (t : tT g (dOrT ft fu) σ H Q) : tOr (tT g ft) (tT g fu) σ H Q := by
  obtain ⟨F, ρ, r, w, ρ', e, q⟩ := t
  obtain ⟨⟨x, ρ1⟩, e1, e⟩ := Option.bind_eq_some_iff.mp e
  refine ⟨F, ρ, r, x, ρ1, e1, fun H1 F1 p1 => ?_⟩
  cases x with
  | false => exact ⟨F1, ρ1, p1.post.rel, w, ρ', e, fun H2 F2 p2 => q H2 F2 (p1.trans r p2)⟩
  | true => cases e; exact q H1 F1 p1
theorem pwd_and1 (ha : PTD X a ft) : PWD X (.BoolOp .And [a] pos) ft := fun g hg => pw_and1 (ha g hg)
theorem pwd_or1 (ha : PTD X a ft) : PWD X (.BoolOp .Or [a] pos) ft := fun g hg => pw_or1 (ha g hg)
theorem pwd_and (ha : PTD X a ft) (hb : PWD X (.BoolOp .And (b :: rest) pos) fu) : PWD X (.BoolOp .And (a :: b :: rest) pos) (dAndT ft fu) := fun g hg => (pw_and (ha g hg) (hb g hg)).wk fun _ _ _ => and_ok
theorem pwd_or (ha : PTD X a ft) (hb : PWD X (.BoolOp .Or (b :: rest) pos) fu) : PWD X (.BoolOp .Or (a :: b :: rest) pos) (dOrT ft fu) := fun g hg => (pw_or (ha g hg) (hb g hg)).wk fun _ _ _ => or_ok
theorem PWD.pt (h : PWD X a ft) : PTD X a ft := fun g hg => (h g hg).pt
theorem ptd_not (ha : PTD X a ft) : PTD X (.UnaryOp .Not a pos) (dNotT ft) := fun g hg => (pt_not (ha g hg)).wk fun σ H Q t => by
  obtain ⟨F, ρ, r, w, ρ', e, q⟩ := t
  obtain ⟨⟨x, ρ1⟩, e1, e⟩ := Option.map_eq_some_iff.mp e
  cases e
  exact ⟨F, ρ, r, x, ρ1, e1, fun H1 F1 p1 => q H1 F1 p1⟩
theorem sh_inv {g : G} {F : Rg} {ρ : En} {σ : St} {H : Hp} {v : V} {d : D} (h : RW g F ρ σ H v (.sh d)) : Dt g.K F H d v := h
theorem ped_and (ha : PED X a fa) (hb : PED X (.BoolOp .And (b :: rest) pos) fb) : PED X (.BoolOp .And (a :: b :: rest) pos) (dAndV fa fb) := fun g hg => (pe_and (ha g hg) (hb g hg)).wk fun σ H Q t => by
  obtain ⟨F, ρ, r, w, ρ', e, q⟩ := t
  obtain ⟨⟨x, ρ1⟩, e1, e⟩ := Option.bind_eq_some_iff.mp e
  refine ⟨F, ρ, r, x, ρ1, e1, fun v H1 F1 p1 => ?_⟩
  simp only at e
  split at e
  · cases sh_inv p1.rw
    exact ⟨true, rfl, F1, ρ1, p1.t.post.rel, w, ρ', e, fun v H2 F2 p2 => q v H2 F2 (EPo.then r p1.t p2)⟩
  · cases sh_inv p1.rw
    cases e
    exact ⟨false, rfl, q _ H1 F1 p1⟩
  · cases e
theorem ped_or (ha : PED X a fa) (hb : PED X (.BoolOp .Or (b :: rest) pos) fb) : PED X (.BoolOp .Or (a :: b :: rest) pos) (dOrV fa fb) := fun g hg => (pe_or (ha g hg) (hb g hg)).wk fun σ H Q t => by
  obtain ⟨F, ρ, r, w, ρ', e, q⟩ := t
  obtain ⟨⟨x, ρ1⟩, e1, e⟩ := Option.bind_eq_some_iff.mp e
  refine ⟨F, ρ, r, x, ρ1, e1, fun v H1 F1 p1 => ?_⟩
  simp only at e
  split at e
  · cases sh_inv p1.rw
    exact ⟨false, rfl, F1, ρ1, p1.t.post.rel, w, ρ', e, fun v H2 F2 p2 => q v H2 F2 (EPo.then r p1.t p2)⟩
  · cases sh_inv p1.rw
    cases e
    exact ⟨true, rfl, q _ H1 F1 p1⟩
  · cases e
theorem ped_one {op : BoolOp} (ha : PED X a fa) : PED X (.BoolOp op [a] pos) fa := fun g hg => pe_one (ha g hg)
theorem ped_not (ha : PED X a fa) : PED X (.UnaryOp .Not a pos) (dNotV fa) := fun g hg => (pe_notT (ha g hg)).wk fun σ H Q t => by
  obtain ⟨F, ρ, r, w, ρ', e, q⟩ := t
  obtain ⟨⟨x, ρ1⟩, e1, e⟩ := Option.bind_eq_some_iff.mp e
  obtain ⟨d, e2, e⟩ := Option.bind_eq_some_iff.mp e
  obtain ⟨k, e3, e⟩ := Option.map_eq_some_iff.mp e
  cases e
  exact ⟨F, ρ, r, x, ρ1, e1, fun v H1 F1 p1 => ⟨k, hg ▸ truV_of (RW.top p1.t.post.rel p1.rw e2) e3, q _ H1 F1 (EPo.then r p1.t (EPo.val p1.t.post.rel (.bl _)))⟩⟩
theorem ped_if (hc : PTD X c ft) (ha : PED X a fa) (hb : PED X b fb) : PED X (.IfExp c a b pos) (dIf ft fa fb) := fun g hg => (pe_ifExp (hc g hg) (ha g hg) (hb g hg)).wk fun σ H Q t => by
  obtain ⟨F, ρ, r, w, ρ', e, q⟩ := t
  obtain ⟨⟨x, ρ1⟩, e1, e⟩ := Option.bind_eq_some_iff.mp e
  refine ⟨F, ρ, r, x, ρ1, e1, fun H1 F1 p1 => ?_⟩
  cases x with
  | true =>
    rw [if_pos rfl] at e ⊢
    exact ⟨F1, ρ1, p1.post.rel, w, ρ', e, fun v H2 F2 p2 => q v H2 F2 (EPo.then r p1 p2)⟩
  | false =>
    rw [if_neg (show ¬ (false = true) from Bool.false_ne_true)] at e ⊢
    exact ⟨F1, ρ1, p1.post.rel, w, ρ', e, fun v H2 F2 p2 => q v H2 F2 (EPo.then r p1 p2)⟩
theorem ped_neg (ha : PED X a fa) : PED X (.UnaryOp .USub a pos) (dNeg fa) := fun g hg => (pe_un un_neg (ha g hg)).wk fun σ H Q t => by
  obtain ⟨F, ρ, r, w, ρ', e, q⟩ := t
  obtain ⟨⟨x, ρ1⟩, e1, e⟩ := Option.bind_eq_some_iff.mp e
  refine ⟨F, ρ, r, x, ρ1, e1, fun v H1 F1 p1 => ?_⟩
  simp only at e
  split at e
  · cases sh_inv p1.rw
    cases e
    exact ⟨_, rfl, q _ H1 F1 (EPo.then r p1.t (EPo.val p1.t.post.rel (.int _)))⟩
  · cases e
end

/-! ### several expressions in a row -/
def dNil : DA := fun ρ => some ([], ρ)
def dCons (fa : DE) (fs : DA) : DA := fun ρ => (fa ρ).bind fun x => (fs x.2).map fun y => (x.1 :: y.1, y.2)
section
variable {g : G} {F F1 F2 F' : Rg} {ρ ρ1 ρ2 ρ' : En} {σ : St} {H H1 H2 H' : Hp} {ws : List W} {vs : List V} {w : W} {v : V}
theorem APo.then (r : Rel g F ρ σ H) (p : TPo g F ρ σ H F1 ρ1 H1) (q : APo g F1 ρ1 σ H1 ws ρ2 vs F2 H2) : APo g F ρ σ H ws ρ2 vs F2 H2 :=
  ⟨p.trans r q.t, q.rw, fun i y u a h1 h2 h => by
    by_cases e : H a = none
    · exact e
    · exact absurd (q.new i y u a h1 h2 h) (p.post.there a e)⟩
theorem RW.frs (h : RW g F ρ σ H v w) {a : Addr} (f : frAt w v a) : H a ≠ none := by
  obtain ⟨⟨d, rfl⟩, rfl⟩ := f
  obtain ⟨b, e, o, _⟩ := h
  cases e
  obtain ⟨u, eu, _⟩ := o.mut
  rw [eu]
  exact fun z => nomatch z
theorem RWs.step (r : Rel g F ρ σ H) (p : TPo g F ρ σ H F' ρ' H') : ∀ {vs : List V} {ws : List W}, RWs g F ρ σ H vs ws → RWs g F' ρ' σ H' vs ws
  | _, _, .nil => .nil
  | _, _, .cons h t n => .cons (h.step r p) (RWs.step r p t) n
theorem RWs.length : ∀ {vs : List V} {ws : List W}, RWs g F ρ σ H vs ws → ws.length = vs.length
  | _, _, .nil => rfl
  | _, _, .cons _ t _ => by simp [RWs.length t]
theorem RWs.get : ∀ {vs : List V} {ws : List W} {i : Nat}, RWs g F ρ σ H vs ws → ws[i]? = some w → ∃ v, vs[i]? = some v ∧ RW g F ρ σ H v w
  | _, _, _, .nil, e => by simp at e
  | _, _, 0, .cons h _ _, e => by simp at e; subst e; exact ⟨_, rfl, h⟩
  | _, _, i + 1, .cons _ t _, e => by
    obtain ⟨v, h1, h2⟩ := RWs.get (i := i) t (by simpa using e)
    exact ⟨v, by simpa using h1, h2⟩
end
section
variable {X : Cx} {pos : Pos} {e : Expr} {es : List Expr} {fa : DE} {fs : DA}
theorem pad_nil : PAD X [] dNil := fun g hg => (pa_nil).wk fun σ H Q t => by
  obtain ⟨F, ρ, r, w, ρ', e, q⟩ := t
  cases e
  exact q _ H F ⟨TPo.refl r, .nil, fun i y u a h => by simp at h⟩
theorem pad_cons (ha : PED X e fa) (hs : PAD X es fs) (he : starEach (e :: es) X.env = (false, eval e X.env) :: starEach es X.env := by rfl) : PAD X (e :: es) (dCons fa fs) := fun g hg => (pa_cons (ha g hg) (hs g hg) he).wk fun σ H Q t => by
  obtain ⟨F, ρ, r, w, ρ', e, q⟩ := t
  obtain ⟨⟨x, ρ1⟩, e1, e⟩ := Option.bind_eq_some_iff.mp e
  obtain ⟨⟨ws, ρ2⟩, e2, e⟩ := Option.map_eq_some_iff.mp e
  cases e
  refine ⟨F, ρ, r, x, ρ1, e1, fun v H1 F1 p1 => ⟨F1, ρ1, p1.t.post.rel, ws, ρ2, e2, fun vs H2 F2 p2 => ?_⟩⟩
  have r1 := p1.t.post.rel
  refine q _ H2 F2 ⟨p1.t.trans r p2.t, .cons (p1.rw.step r1 p2.t) p2.rw fun a f i y u h1 h2 h3 => ?_, fun i y u a h1 h2 h3 => ?_⟩
  · exact p1.rw.frs f (p2.new i y u a h1 h2 h3)
  · cases i with
    | zero =>
      simp at h1 h2
      subst h1 h2
      exact p1.new a h3
    | succ i =>
      by_cases z : H a = none
      · exact z
      · exact absurd (p2.new i y u a (by simpa using h1) (by simpa using h2) h3) (p1.t.post.there a z)
end

/-! ### given away -/
def gives : List W → En → Option (List D × En)
  | [], ρ => some ([], ρ)
  | w :: ws, ρ => (w.give ρ).bind fun x => (gives ws x.2).map fun y => (x.1 :: y.1, y.2)
section
variable {g : G} {F F1 F2 F' : Rg} {ρ ρ1 ρ2 ρ' : En} {σ : St} {H H1 H2 H' : Hp}
/-- a result stays while another one is given away -/
theorem RW.ghost {w : W} {v : V} (h : RW g F ρ σ H v w) (mono : ∀ a, F a → F' a) (new : ∀ a, frAt w v a → ¬ F' a) (shr : ∀ b, OwnAt ρ' σ b → OwnAt ρ σ b) (pres : ∀ (i : Nat) (s : Sl), ρ.sl[i]? = some (some s) → ∃ s', ρ'.sl[i]? = some (some s')) : RW g F' ρ' σ H v w := by
  have k : Keeps F F' H H := ⟨mono, fun _ _ h => h, fun _ _ _ h => h, fun _ _ _ h => h⟩
  cases w with
  | sh d => exact Dt.keeps k h
  | fr d =>
    obtain ⟨a, e, o, n, no, f⟩ := h
    exact ⟨a, e, o.keeps k (fun _ h => h), new a ⟨⟨_, rfl⟩, e⟩, fun z => no (shr _ z), f⟩
  | vr i =>
    obtain ⟨e, s, q⟩ := h
    exact ⟨e, pres i s q⟩
theorem gives_ok : ∀ {ws : List W} {vs : List V} {ds : List D} {F : Rg} {ρ ρ' : En}, Rel g F ρ σ H → RWs g F ρ σ H vs ws → gives ws ρ = some (ds, ρ') →
    ∃ F', (∀ a, F a → F' a) ∧ (∀ a, F' a → F a ∨ OwnAt ρ σ a ∨ ∃ (i : Nat) (y : W) (u : V), ws[i]? = some y ∧ vs[i]? = some u ∧ frAt y u a) ∧ Rel g F' ρ' σ H ∧ Dts g.K F' H ds vs ∧
      (∀ b, OwnAt ρ' σ b → OwnAt ρ σ b) ∧ (∀ (i : Nat) (s : Sl), ρ.sl[i]? = some (some s) → ∃ s', ρ'.sl[i]? = some (some s'))
  | [], _, _, F, ρ, _, r, .nil, e => by
    cases e
    exact ⟨F, fun _ h => h, fun _ h => .inl h, r, .nil, fun _ h => h, fun _ s h => ⟨s, h⟩⟩
  | w :: ws, v :: vs, ds, F, ρ, ρ', r, .cons h t n, e => by
    obtain ⟨⟨d, ρ1⟩, e1, e⟩ := Option.bind_eq_some_iff.mp e
    obtain ⟨⟨ds', ρ2⟩, e2, e⟩ := Option.map_eq_some_iff.mp e
    cases e
    obtain ⟨F1, m1, n1, r1, d1, s1, p1, _⟩ := give_ok r h e1
    have t1 : RWs g F1 ρ1 σ H vs ws := by
      have key : ∀ {vs' : List V} {ws' : List W}, RWs g F ρ σ H vs' ws' → (∀ a, frAt w v a → ∀ (i : Nat) y u, ws'[i]? = some y → vs'[i]? = some u → ¬ frAt y u a) → RWs g F1 ρ1 σ H vs' ws' := by
        intro vs' ws' q
        induction q with
        | nil => intro _; exact .nil
        | cons h' t' n' ih =>
          intro z
          refine .cons (h'.ghost m1 (fun a f f1 => ?_) s1 p1) (ih fun a f i y u h1 h2 => z a f (i + 1) y u (by simpa using h1) (by simpa using h2)) n'
          obtain ⟨⟨d', rfl⟩, rfl⟩ := f
          obtain ⟨b, eb, o, nF, no, _⟩ := h'
          cases eb
          rcases n1 a f1 with z1 | z1 | z1
          · exact nF z1
          · exact no z1
          · exact z a z1 0 _ _ rfl rfl ⟨⟨_, rfl⟩, rfl⟩
      exact key t n
    obtain ⟨F2, m2, n2, r2, d2, s2, p2⟩ := gives_ok r1 t1 e2
    refine ⟨F2, fun a h => m2 a (m1 a h), fun a h => ?_, r2, .cons (d1.keeps ⟨m2, fun _ _ h => h, fun _ _ _ h => h, fun _ _ _ h => h⟩) d2, fun b h => s1 b (s2 b h), fun i s h => let ⟨s', h'⟩ := p1 i s h; p2 i s' h'⟩
    rcases n2 a h with z | z | ⟨i, y, u, z1, z2, z3⟩
    · rcases n1 a z with z | z | z
      · exact .inl z
      · exact .inr (.inl z)
      · exact .inr (.inr ⟨0, w, v, rfl, rfl, z⟩)
    · exact .inr (.inl (s1 a z))
    · exact .inr (.inr ⟨i + 1, y, u, by simpa using z1, by simpa using z2, z3⟩)
/-- the region grows behind an evaluation: by what is new since, by what was our own -/
theorem TPo.ghost (p : TPo g F ρ σ H F1 ρ1 H1) (r2 : Rel g F2 ρ2 σ H1) (mono : ∀ a, F1 a → F2 a) (new : ∀ a, F2 a → F1 a ∨ OwnAt ρ1 σ a ∨ H a = none) (shr : ∀ b, OwnAt ρ2 σ b → OwnAt ρ1 σ b)
    (pres : ∀ (i : Nat) (s : Sl), ρ1.sl[i]? = some (some s) → ∃ s', ρ2.sl[i]? = some (some s')) : TPo g F ρ σ H F2 ρ2 H1 :=
  ⟨⟨r2, fun a h => mono a (p.post.mono a h), p.post.kept, p.post.there, fun b h => by
    rcases new b h with z | z | z
    · exact p.post.newF b z
    · exact .inr (.inr (p.shr b z))
    · exact .inr (.inl z), fun b h => .inl (p.shr b (shr b h))⟩, fun i s h => let ⟨s', h'⟩ := p.pres i s h; pres i s' h', fun b h => p.shr b (shr b h)⟩
theorem APo.gives {ws : List W} {vs : List V} {ds : List D} (p : APo g F ρ σ H ws ρ1 vs F1 H1) (e : gives ws ρ1 = some (ds, ρ2)) : ∃ F2, TPo g F ρ σ H F2 ρ2 H1 ∧ Dts g.K F2 H1 ds vs := by
  obtain ⟨F2, m, n, r2, d, s, pr⟩ := gives_ok p.t.post.rel p.rw e
  refine ⟨F2, p.t.ghost r2 m (fun a h => ?_) s pr, d⟩
  rcases n a h with z | z | ⟨i, y, u, z1, z2, z3⟩
  · exact .inl z
  · exact .inr (.inl z)
  · exact .inr (.inr (p.new i y u a z1 z2 z3))
theorem EPo.give {w : W} {v : V} {d : D} (p : EPo g F ρ σ H w ρ1 v F1 H1) (e : w.give ρ1 = some (d, ρ2)) : ∃ F2, TPo g F ρ σ H F2 ρ2 H1 ∧ Dt g.K F2 H1 d v := by
  obtain ⟨F2, m, n, r2, d, s, pr, _⟩ := give_ok p.t.post.rel p.rw e
  refine ⟨F2, p.t.ghost r2 m (fun a h => ?_) s pr, d⟩
  rcases n a h with z | z | z
  · exact .inl z
  · exact .inr (.inl z)
  · exact .inr (.inr (p.new a z))
end

/-! ### displays -/
def dTup (fs : DA) : DE := fun ρ => (fs ρ).bind fun x => (gives x.1 x.2).bind fun y => if y.1.length ≤ 1000 then some (.sh (.tuple y.1), y.2) else none
def dLst (fs : DA) : DE := fun ρ => (fs ρ).bind fun x => (gives x.1 x.2).bind fun y => if y.1.length ≤ 1000 then some (.fr (.list y.1), y.2) else none
section
variable {X : Cx} {pos : Pos} {es : List Expr} {fs : DA}
theorem ped_tup {k : Nat} (hs : PAD X es fs) : PED X (.Tuple es k pos) (dTup fs) := fun g hg => (pe_tup (hs g hg)).wk fun σ H Q t => by
  obtain ⟨F, ρ, r, w, ρ', e, q⟩ := t
  obtain ⟨⟨ws, ρ1⟩, e1, e⟩ := Option.bind_eq_some_iff.mp e
  obtain ⟨⟨ds, ρ2⟩, e2, e⟩ := Option.bind_eq_some_iff.mp e
  split at e
  · rename_i hz
    cases e
    refine ⟨F, ρ, r, ws, ρ1, e1, fun vs H1 F1 p1 => ?_⟩
    obtain ⟨F2, p2, d⟩ := p1.gives e2
    have hl := d.length
    simp only at hz
    exact ⟨by rw [sizeLine_eq]; omega, fun p hp => q _ _ F2 (EPo.then r p2 (EPo.newTup p2.post.rel hp d))⟩
  · cases e
theorem ped_lst (hs : PAD X es fs) : PED X (.List es pos) (dLst fs) := fun g hg => (pe_lst (hs g hg)).wk fun σ H Q t => by
  obtain ⟨F, ρ, r, w, ρ', e, q⟩ := t
  obtain ⟨⟨ws, ρ1⟩, e1, e⟩ := Option.bind_eq_some_iff.mp e
  obtain ⟨⟨ds, ρ2⟩, e2, e⟩ := Option.bind_eq_some_iff.mp e
  split at e
  · rename_i hz
    cases e
    refine ⟨F, ρ, r, ws, ρ1, e1, fun vs H1 F1 p1 => ?_⟩
    obtain ⟨F2, p2, d⟩ := p1.gives e2
    have hl := d.length
    simp only at hz
    exact ⟨by rw [sizeLine_eq]; omega, fun p hp => q _ _ F2 (EPo.then r p2 (EPo.newList p2.post.rel hp d))⟩
  · cases e
end

/-! ### subscripts -/
/-- a key as data -/
def kOf : D → Option Key
  | .int i => some (.inl i)
  | .str x => some (.inr x)
  | _ => none
/-- what a dict holds at a key -/
def dLook : List (D × D) → Key → Option D
  | [], _ => none
  | (k, d) :: r, y => if kOf k = some y then some d else dLook r y
section
variable {K : PySem.W.Frag} {F : Rg} {H : Hp}
theorem kOf_kD (k : Key) : kOf (kD k) = some k := by cases k <;> rfl
theorem kOf_val {d : D} {k : Key} {v : V} (e : kOf d = some k) (h : Dtop K F H d v) : v = kV k := by
  cases d with
  | int i => cases e; exact h.int_inv
  | str x => cases e; exact h.str_inv
  | none => cases e
  | bool _ => cases e
  | list _ => cases e
  | tuple _ => cases e
  | dict _ => cases e
theorem Dkv.look : ∀ {kvs : List (D × D)} {ks : List (Key × V)} (k : Key), Dkv K F H kvs ks → (dLook kvs k = none ∧ valV ks k = none) ∨ ∃ d v, dLook kvs k = some d ∧ valV ks k = some v ∧ Dt K F H d v
  | _, _, _, .nil => .inl ⟨rfl, rfl⟩
  | _, _, k, .cons (k := k') (d := d) (v := v) (kvs := kvs) (ks := ks) h t => by
    by_cases e : k' = k
    · subst e
      refine .inr ⟨d, v, ?_, ?_, h⟩
      · rw [dLook, kOf_kD, if_pos rfl]
      · exact valV_pos rfl
    · have e1 : dLook ((kD k', d) :: kvs) k = dLook kvs k := by rw [dLook, kOf_kD, if_neg (fun z => e (Option.some.inj z))]
      have e2 : valV ((k', v) :: ks) k = valV ks k := valV_neg e
      rw [e1, e2]
      exact Dkv.look k t
theorem Dkv.length : ∀ {kvs : List (D × D)} {ks : List (Key × V)}, Dkv K F H kvs ks → kvs.length = ks.length
  | _, _, .nil => rfl
  | _, _, .cons _ t => by simp [Dkv.length t]
end
/-- a tuple of whole numbers as a key -/
def tOf : D → Option (List Int)
  | .tuple ds => ints? ds
  | _ => none
def tLook : List (D × D) → List Int → Option D
  | [], _ => none
  | (k, d) :: r, y => if tOf k = some y then some d else tLook r y
section
variable {K : PySem.W.Frag} {F : Rg} {H : Hp}
theorem tOf_tup (k : List Int) : tOf (.tuple (k.map .int)) = some k := ints?_map k
theorem tOf_val {d : D} {k : List Int} {v : V} (e : tOf d = some k) (h : Dtop K F H d v) : ∃ b, v = .ref b ∧ SqT K H b (k.map V.int) := by
  unfold tOf at e
  split at e
  · obtain ⟨l, xs, rfl, h1, d1⟩ := h.tup_inv
    rw [ints?_some e] at d1
    rw [d1.ints] at h1
    exact ⟨l, rfl, h1⟩
  · cases e
theorem Dkt.keys : ∀ {kvs : List (D × D)} {es : List TE3}, Dkt K F H kvs es → TKeys K H es
  | _, _, .nil => fun e h => nomatch h
  | _, _, .cons s h r t => fun e m => by
    rcases List.mem_cons.mp m with rfl | m
    · exact s
    · exact Dkt.keys t e m
theorem atKey_pos {x : TE3} {r : List TE3} {k : List Int} (e : x.1 = k) : atKey (x :: r) k = some x.2 := by simp [atKey, e]
theorem atKey_neg {x : TE3} {r : List TE3} {k : List Int} (e : ¬ x.1 = k) : atKey (x :: r) k = atKey r k := by simp [atKey, e]
theorem Dkt.look : ∀ {kvs : List (D × D)} {es : List TE3} (k : List Int), Dkt K F H kvs es → (tLook kvs k = none ∧ atKey es k = none) ∨ ∃ d v p, tLook kvs k = some d ∧ atKey es k = some p ∧ Dt K F H d v ∧ RelV v p.2
  | _, _, _, .nil => .inl ⟨rfl, rfl⟩
  | _, _, k, .cons (k := k') (b := b) (d := d) (v := v) (u := u) (kvs := kvs) (ks := ks) s h r t => by
    by_cases e : k' = k
    · subst e
      refine .inr ⟨d, v, (b, u), ?_, atKey_pos rfl, h, r⟩
      rw [tLook, tOf_tup, if_pos rfl]
    · have e1 : tLook ((.tuple (k'.map .int), d) :: kvs) k = tLook kvs k := by rw [tLook, tOf_tup, if_neg (fun z => e (Option.some.inj z))]
      have e2 : atKey ((k', b, u) :: ks) k = atKey ks k := atKey_neg e
      rw [e1, e2]
      exact Dkt.look k t
theorem Dkt.length : ∀ {kvs : List (D × D)} {es : List TE3}, Dkt K F H kvs es → kvs.length = es.length
  | _, _, .nil => rfl
  | _, _, .cons _ _ _ t => by simp [Dkt.length t]
/-- what stands at a key, for the rules -/
theorem Dkt.get {kvs : List (D × D)} {es : List TE3} {a b : Addr} {k : List Int} (t : Dkt K F H kvs es) (r : Rd H a (tdO a es)) (s : SqT K H b (k.map V.int)) :
    (tLook kvs k = none ∧ TGet K H a (.ref b) none) ∨ ∃ d v, tLook kvs k = some d ∧ TGet K H a (.ref b) (some v) ∧ Dt K F H d v := by
  rcases t.look k with ⟨z1, z2⟩ | ⟨d, v, p, z1, z2, hv, rv⟩
  · exact .inl ⟨z1, es, k, b, r, t.keys, rfl, s, by rw [z2]; exact True.intro⟩
  · exact .inr ⟨d, v, z1, ⟨es, k, b, r, t.keys, rfl, s, by rw [z2]; exact rv⟩, hv⟩
end
structure I2 (X : Cx) (sem : D → D → Option W) : Prop where
  ex : ∃ r, IxR X r ∧ ∀ (F : Rg) (H : Hp) (a b : D) (va vb : V) (w : W) (Q : VK), Dtop X.K F H a va → Dtop X.K F H b vb → sem a b = some w → (∀ v H', NewR X.K F H v H' w → Q v H') → r va vb H Q
def bIx : D → D → Option W
  | .list xs, .int i => (atI xs i).map .sh
  | .tuple xs, .int i => (atI xs i).map .sh
  | .str x, .int i => if x.length ≤ 16777216 then (atI x.cps.toList i).map fun c => .sh (.str ⟨#[c]⟩) else none
  | .dict kvs, k => if isT kvs = true then (tOf k).bind fun y => (tLook kvs.tail y).map .sh else (kOf k).bind fun y => (dLook kvs y).map .sh
  | _, _ => none
section
variable {X : Cx} {pos : Pos} {a b : Expr} {fa fb : DE}
theorem ix_dict (hu : X.A.units + 1 < cLine) : IxR X (fun x y H Q => ∃ l v, x = .ref l ∧ DGet H l y (some v) ∧ Q v H) := by
  intro value slice pins s σ H x y v u Q I rx ry ⟨l, z, hx, hg, q⟩ hs
  subst hx
  cases rx
  refine tail_any (dict_typeIs I hg) PySem.F.slot_dict_getitem.lookup ?_ hs
  exact d_getItem hu I hg ry fun w' s' I' r' => ⟨z, H, I', r', q⟩
theorem Dts.atI {K : PySem.W.Frag} {F : Rg} {H : Hp} {ds : List D} {vs : List V} {i : Int} {d : D} (h : Dts K F H ds vs) (e : L2.atI ds i = some d) : ∃ v, L2.atI vs i = some v ∧ Dt K F H d v := by
  unfold L2.atI at e ⊢
  rw [← h.length]
  obtain ⟨j, e1, e2⟩ := Option.bind_eq_some_iff.mp e
  obtain ⟨v, e3, h'⟩ := h.get e2
  exact ⟨v, by rw [e1]; exact e3, h'⟩
theorem i2_ix (hu : X.A.units + 1 < cLine) : I2 X bIx := by
  refine ⟨_, ix_list.or (ix_tup.or (ix_str.or ((ix_dict hu).or (ix_td hu)))), fun F H a b va vb w Q ha hb e q => ?_⟩
  unfold bIx at e
  split at e
  · obtain ⟨d, e1, rfl⟩ := Option.map_eq_some_iff.mp e
    obtain ⟨l, xs, rfl, h1, d1⟩ := ha
    cases hb.int_inv
    obtain ⟨v, e2, h⟩ := d1.atI e1
    exact .inl ⟨l, xs, _, v, rfl, rfl, .inl h1, e2, q _ _ (.val h)⟩
  · obtain ⟨d, e1, rfl⟩ := Option.map_eq_some_iff.mp e
    obtain ⟨l, xs, rfl, h1, d1⟩ := ha.tup_inv
    cases hb.int_inv
    obtain ⟨v, e2, h⟩ := d1.atI e1
    exact .inr (.inl ⟨l, xs, _, v, rfl, rfl, h1, e2, q _ _ (.val h)⟩)
  · split at e
    · rename_i hz
      obtain ⟨c, e1, rfl⟩ := Option.map_eq_some_iff.mp e
      cases ha.str_inv
      cases hb.int_inv
      exact .inr (.inr (.inl ⟨_, _, c, rfl, rfl, by rw [sizeLine_eq]; exact hz, e1, q _ _ (.val (.str _))⟩))
    · cases e
  · split at e
    · rename_i hT
      obtain ⟨y, e1, e⟩ := Option.bind_eq_some_iff.mp e
      obtain ⟨d, e2, rfl⟩ := Option.map_eq_some_iff.mp e
      obtain ⟨l, ks, rfl, h1, d1⟩ := ha.dit hT
      obtain ⟨b, rfl, hs⟩ := tOf_val e1 hb
      rcases d1.get h1 hs with ⟨z, _⟩ | ⟨d', v, z1, g, h⟩
      · rw [z] at e2; cases e2
      · rw [z1] at e2
        cases e2
        exact .inr (.inr (.inr (.inr ⟨l, v, rfl, g, q _ _ (.val h)⟩)))
    · rename_i hT
      obtain ⟨y, e1, e⟩ := Option.bind_eq_some_iff.mp e
      obtain ⟨d, e2, rfl⟩ := Option.map_eq_some_iff.mp e
      obtain ⟨l, ks, rfl, h1, d1⟩ := ha.dik (by simpa using hT)
      have := kOf_val e1 hb
      subst this
      rcases d1.look y with ⟨z, _⟩ | ⟨d', v, z1, z2, h⟩
      · rw [z] at e2; cases e2
      · rw [z1] at e2
        cases e2
        exact .inr (.inr (.inr (.inl ⟨l, v, rfl, .inl ⟨ks, y, h1, rfl, z2.symm⟩, q _ _ (.val h)⟩)))
  · cases e
theorem ped_ix (hu : X.A.units + 1 < cLine) (ha : PED X a fa) (hb : PED X b fb) (hs : PlainIx b := by exact fun _ _ => rfl) : PED X (.Subscript a b pos) (dBin bIx fa fb) := fun g hg => by
  obtain ⟨r, hr, hq⟩ := (i2_ix hu).ex
  refine (pe_ix hr (ha g hg) (hb g hg) hs).wk fun σ H Q t => ?_
  exact two t fun F ρ H2 da db va vb w r2 ta tb e q => hq F H2 da db va vb w Q (hg ▸ ta) (hg ▸ tb) e fun v H' n => q v H' (hg ▸ n)
end

/-! ### slices -/
abbrev DO := En → Option (Option Int × En)
def dNo : DO := fun ρ => some (none, ρ)
def dPart (fa : DE) : DO := fun ρ => (fa ρ).bind fun x => match x.1 with
  | .sh (.int i) => some (some i, x.2)
  | _ => none
def tO (g : G) (f : DO) : TO := fun σ H Q => ∃ F ρ, Rel g F ρ σ H ∧ ∃ b ρ', f ρ = some (b, ρ') ∧ ∀ H' F', TPo g F ρ σ H F' ρ' H' → Q b H'
def POD (X : Cx) (e : Option Expr) (f : DO) : Prop := ∀ g : G, g.K = X.K → PO X e (tO g f)
def cutD (xs : List D) (lo hi : Option Int) : List D := (xs.drop (HT.sIx xs.length 0 lo)).take (HT.sIx xs.length xs.length hi - HT.sIx xs.length 0 lo)
def bCut : D → Option Int → Option Int → Option W
  | .list xs, lo, hi => some (.fr (.list (cutD xs lo hi)))
  | .tuple xs, lo, hi => some (.sh (.tuple (cutD xs lo hi)))
  | _, _, _ => none
def dCut (fa : DE) (fl fu : DO) : DE := fun ρ => (fa ρ).bind fun x => (fl x.2).bind fun l => (fu l.2).bind fun u => (x.1.get u.2).bind fun a => (bCut a l.1 u.1).map fun w => (w, u.2)
section
variable {X : Cx} {pos p2 : Pos} {a : Expr} {lo hi : Option Expr} {fa : DE} {fl fu : DO}
theorem _root_.L2.PO.wk {X : Cx} {e : Option Expr} {t t' : TO} (h : PO X e t) (hi : ∀ σ H Q, t' σ H Q → t σ H Q) : PO X e t' := ⟨fun pins s σ H Q I q => h.run pins s σ H Q I (hi σ H Q q)⟩
theorem pod_none : POD X none dNo := fun g hg => po_none.wk fun σ H Q t => by
  obtain ⟨F, ρ, r, w, ρ', e, q⟩ := t
  cases e
  exact q H F (TPo.refl r)
theorem pod_some (ha : PED X a fa) : POD X (some a) (dPart fa) := fun g hg => (po_some (ha g hg)).wk fun σ H Q t => by
  obtain ⟨F, ρ, r, w, ρ', e, q⟩ := t
  obtain ⟨⟨x, ρ1⟩, e1, e⟩ := Option.bind_eq_some_iff.mp e
  refine ⟨F, ρ, r, x, ρ1, e1, fun v H1 F1 p1 => ?_⟩
  simp only at e
  split at e
  · cases sh_inv p1.rw
    cases e
    exact ⟨_, rfl, q H1 F1 p1.t⟩
  · cases e
theorem Dts.cut {K : PySem.W.Frag} {F : Rg} {H : Hp} {ds : List D} {vs : List V} (h : Dts K F H ds vs) (lo hi : Option Int) : Dts K F H (cutD ds lo hi) (cutV vs lo hi) := by
  unfold cutD cutV
  rw [h.length]
  exact (h.drop _).take _
theorem ped_cut (ha : PED X a fa) (hl : POD X lo fl) (hu : POD X hi fu) : PED X (.Subscript a (.Slice lo hi none p2) pos) (dCut fa fl fu) := fun g hg => by
  refine (pe_slice (sl_list.or sl_tupA) (ha g hg) (hl g hg) (hu g hg)).wk fun σ H Q t => ?_
  obtain ⟨F, ρ, r, w, ρ', e, q⟩ := t
  obtain ⟨⟨x, ρ1⟩, e1, e⟩ := Option.bind_eq_some_iff.mp e
  obtain ⟨⟨l, ρ2⟩, e2, e⟩ := Option.bind_eq_some_iff.mp e
  obtain ⟨⟨u, ρ3⟩, e3, e⟩ := Option.bind_eq_some_iff.mp e
  obtain ⟨d, e4, e⟩ := Option.bind_eq_some_iff.mp e
  obtain ⟨w', e5, e⟩ := Option.map_eq_some_iff.mp e
  cases e
  refine ⟨F, ρ, r, x, ρ1, e1, fun v H1 F1 p1 => ⟨F1, ρ1, p1.t.post.rel, l, ρ2, e2, fun H2 F2 p2 => ⟨F2, ρ2, p2.post.rel, u, ρ3, e3, fun H3 F3 p3 => ?_⟩⟩⟩
  have r1 := p1.t.post.rel
  have p23 := p2.trans r1 p3
  have r3 := p3.post.rel
  have tp := RW.top r3 (p1.rw.step r1 p23) e4
  have fin : ∀ v' H', NewR g.K F3 H3 v' H' w → Q v' H' := fun v' H' n => q v' H' F3 (EPo.then r (p1.t.trans r p23) (n.epo r3))
  unfold bCut at e5
  split at e5
  · cases e5
    obtain ⟨b, xs, rfl, h1, d1⟩ := tp
    exact .inl ⟨b, xs, rfl, .inl h1, fun p hp => fin _ _ (.lst hp (d1.cut l u))⟩
  · cases e5
    obtain ⟨b, xs, rfl, h1, d1⟩ := tp.tup_inv
    refine .inr ⟨b, xs, rfl, hg ▸ h1, fun z => fin _ _ (.val (.tup h1 ?_)), fun _ p hp => fin _ _ (.tup hp (d1.cut l u))⟩
    have hc : cutV xs l u = xs := by
      unfold cutV
      rw [z.1, z.2, List.drop_zero, Nat.sub_zero, List.take_length]
    have := d1.cut l u
    rw [hc] at this
    exact this
  · cases e5
end
end PD
set_option Elab.async false
set_option linter.all false
set_option maxRecDepth 100000
set_option maxHeartbeats 4000000
/-! PD6: targets, statements, blocks. -/
namespace PD
set_option autoImplicit false
open PySem PySem.Spec L2
open PyProof.Rows hiding St

/-! ### slots stored -/
def En.set (ρ : En) (i : Nat) (s : Sl) : Option En := if (ρ.cup = true ∧ i = 0) ∨ ¬ i < ρ.sl.length then none else some { ρ with sl := ρ.sl.set i (some s) }
section
variable {g : G} {F F1 F2 F' : Rg} {ρ ρ1 ρ2 ρ' : En} {σ σ' : St} {H H1 H2 H' : Hp} {d : D} {v : V} {i : Nat} {a : Addr}
theorem En.set_some {s : Sl} (e : ρ.set i s = some ρ') : ¬ (ρ.cup = true ∧ i = 0) ∧ i < ρ.sl.length ∧ ρ' = { ρ with sl := ρ.sl.set i (some s) } := by
  unfold En.set at e
  split at e
  · cases e
  · rename_i h
    cases e
    exact ⟨fun z => h (.inl z), Classical.byContradiction fun z => h (.inr z), rfl⟩
theorem set_lookσ {x : Option V} {j : Nat} {y : Option V} (h : (σ.set i x)[j]? = some y) : (i = j ∧ y = x) ∨ (i ≠ j ∧ σ[j]? = some y) := by
  by_cases e : i = j
  · subst e
    by_cases hl : i < σ.length
    · rw [List.getElem?_set_self hl] at h
      exact .inl ⟨rfl, (Option.some.inj h).symm⟩
    · rw [List.getElem?_eq_none (by simpa using hl)] at h
      cases h
  · rw [List.getElem?_set_ne e] at h
    exact .inr ⟨e, h⟩
theorem ownAt_set {s : Option Sl} {x : Option V} {b : Addr} (h : OwnAt { ρ with sl := ρ.sl.set i s } (σ.set i x) b) : ((∃ d, s = some (.own d)) ∧ x = some (.ref b)) ∨ OwnAt ρ σ b := by
  obtain ⟨j, d, e1, e2⟩ := h
  rcases set_at e1 with ⟨rfl, q, hl⟩ | ⟨ne, e1⟩
  · rcases set_lookσ e2 with ⟨_, z⟩ | ⟨z, _⟩
    · exact .inl ⟨⟨d, q.symm⟩, z.symm⟩
    · exact absurd rfl z
  · rcases set_lookσ e2 with ⟨z, _⟩ | ⟨_, e2⟩
    · exact absurd z ne
    · exact .inr ⟨j, d, e1, e2⟩
theorem set_core {s : Sl} (r : Rel g F ρ σ H) (hc : ¬ (ρ.cup = true ∧ i = 0)) (hi : i < ρ.sl.length)
    (hs : match s with
      | .sh d => Dt g.K F H d v
      | .own d => ∃ a, v = .ref a ∧ Mo g.K F H d a ∧ ¬ F a ∧ ¬ OwnAt ρ σ a ∧ g.H0 a = none) : Rel g F { ρ with sl := ρ.sl.set i (some s) } (σ.set i (some v)) H := by
  have hiσ : i < σ.length := by rw [← r.len]; exact hi
  refine ⟨by simpa using r.len, fun j d e => ?_, fun j d e => ?_, fun j k d1 d2 a h1 h2 h3 h4 => ?_, fun h => ?_, r.cupF, r.F0, r.Fn, r.Fs, r.base⟩
  · rcases set_at e with ⟨rfl, q, _⟩ | ⟨ne, e⟩
    · cases q
      exact ⟨v, List.getElem?_set_self hiσ, hs⟩
    · obtain ⟨u, e1, h⟩ := r.sh j d e
      exact ⟨u, by rw [List.getElem?_set_ne ne]; exact e1, h⟩
  · rcases set_at e with ⟨rfl, q, _⟩ | ⟨ne, e⟩
    · cases q
      obtain ⟨a, rfl, o, n, _, f⟩ := hs
      exact ⟨a, List.getElem?_set_self hiσ, o, n, .inl f⟩
    · obtain ⟨a, e1, h⟩ := r.own j d e
      exact ⟨a, by rw [List.getElem?_set_ne ne]; exact e1, h⟩
  · rcases set_at h1 with ⟨rfl, q1, _⟩ | ⟨n1, k1⟩
    · rcases set_at h2 with ⟨rfl, q2, _⟩ | ⟨n2, k2⟩
      · rfl
      · cases q1
        obtain ⟨b, rfl, o, n, no, f⟩ := hs
        rw [List.getElem?_set_self hiσ] at h3
        cases h3
        rw [List.getElem?_set_ne n2] at h4
        exact absurd ⟨k, d2, k2, h4⟩ no
    · rcases set_at h2 with ⟨rfl, q2, _⟩ | ⟨n2, k2⟩
      · cases q2
        obtain ⟨b, rfl, o, n, no, f⟩ := hs
        rw [List.getElem?_set_self hiσ] at h4
        cases h4
        rw [List.getElem?_set_ne n1] at h3
        exact absurd ⟨j, d1, k1, h3⟩ no
      · rw [List.getElem?_set_ne n1] at h3
        rw [List.getElem?_set_ne n2] at h4
        exact r.dist j k d1 d2 a k1 k2 h3 h4
  · obtain ⟨c, d, c1, c2, c3⟩ := r.cupT h
    have ne : i ≠ 0 := fun z => hc ⟨h, z⟩
    exact ⟨c, d, c1, by rw [List.getElem?_set_ne ne]; exact c2, by show (ρ.sl.set i (some s))[0]? = _; rw [List.getElem?_set_ne ne]; exact c3⟩
theorem Rel.setSh (r : Rel g F ρ σ H) (h : Dt g.K F H d v) (e : ρ.set i (.sh d) = some ρ') : Rel g F ρ' (σ.set i (some v)) H ∧ ∀ b, OwnAt ρ' (σ.set i (some v)) b → OwnAt ρ σ b := by
  obtain ⟨hc, hi, rfl⟩ := En.set_some e
  refine ⟨set_core r hc hi h, fun b o => ?_⟩
  rcases ownAt_set o with ⟨⟨d, z⟩, _⟩ | z
  · cases z
  · exact z
theorem Rel.setFr (r : Rel g F ρ σ H) (h : ∃ a, v = .ref a ∧ Mo g.K F H d a ∧ ¬ F a ∧ ¬ OwnAt ρ σ a ∧ g.H0 a = none) (e : ρ.set i (.own d) = some ρ') : Rel g F ρ' (σ.set i (some v)) H ∧ ∀ b, OwnAt ρ' (σ.set i (some v)) b → OwnAt ρ σ b ∨ v = .ref b := by
  obtain ⟨hc, hi, rfl⟩ := En.set_some e
  refine ⟨set_core r hc hi h, fun b o => ?_⟩
  rcases ownAt_set o with ⟨_, z⟩ | z
  · exact .inr (Option.some.inj z)
  · exact .inl z
end

/-! ### statements -/
inductive Fl where
  | nx (ρ : En) | rt (w : W) (ρ : En) | bk (ρ : En) | ct (ρ : En)
abbrev DS := En → Option Fl
def SPo (g : G) (F : Rg) (ρ : En) (σ : St) (H : Hp) (D : Ends) : Fl → Prop
  | .nx ρ' => ∀ σ' H' F', Post g F ρ σ H F' ρ' σ' H' → D.nx σ' H'
  | .bk ρ' => ∀ σ' H' F', Post g F ρ σ H F' ρ' σ' H' → D.bk σ' H'
  | .ct ρ' => ∀ σ' H' F', Post g F ρ σ H F' ρ' σ' H' → D.ct σ' H'
  | .rt w ρ' => ∀ v σ' H' F', Post g F ρ σ H F' ρ' σ' H' → RW g F' ρ' σ' H' v w → D.rt v H'
def tS (g : G) (f : DS) : TS := fun D σ H => ∃ F ρ, Rel g F ρ σ H ∧ ∃ fl, f ρ = some fl ∧ SPo g F ρ σ H D fl
def PSD (X : Cx) (st : Stmt) (f : DS) : Prop := ∀ g : G, g.K = X.K → PS X st (tS g f)
def PSsD (X : Cx) (st : List Stmt) (f : DS) : Prop := ∀ g : G, g.K = X.K → PSs X st (tS g f)
section
variable {g : G} {F F1 F2 F' : Rg} {ρ ρ1 ρ2 ρ' : En} {σ σ1 σ' : St} {H H1 H2 H' : Hp} {E : Ends} {fl : Fl}
/-- the same end, told from an earlier state -/
theorem SPo.from (r : Rel g F ρ σ H) (p : Post g F ρ σ H F1 ρ1 σ1 H1) (h : SPo g F ρ σ H E fl) : SPo g F1 ρ1 σ1 H1 E fl := by
  cases fl with
  | nx ρ' => exact fun σ' H' F' q => h σ' H' F' (p.trans r q)
  | bk ρ' => exact fun σ' H' F' q => h σ' H' F' (p.trans r q)
  | ct ρ' => exact fun σ' H' F' q => h σ' H' F' (p.trans r q)
  | rt w ρ' => exact fun v σ' H' F' q => h v σ' H' F' (p.trans r q)
end
def dNx : DS := fun ρ => some (.nx ρ)
def dSeq (f1 f2 : DS) : DS := fun ρ => (f1 ρ).bind fun fl => match fl with
  | .nx ρ1 => f2 ρ1
  | fl => some fl
def dIfS (ft : DT) (f1 f2 : DS) : DS := fun ρ => (ft ρ).bind fun x => if x.1 = true then f1 x.2 else f2 x.2
def dRet (fa : DE) : DS := fun ρ => (fa ρ).map fun x => .rt x.1 x.2
def dRetN : DS := fun ρ => some (.rt (.sh .none) ρ)
def dBk : DS := fun ρ => some (.bk ρ)
def dCt : DS := fun ρ => some (.ct ρ)
def dDrop (fa : DE) : DS := fun ρ => (fa ρ).map fun x => .nx x.2
/-- a statement that is never reached -/
def dNever : DS := fun _ => none
section
variable {X : Cx} {pos : Pos} {st : Stmt} {rest : List Stmt} {e c : Expr} {f1 f2 : DS} {fa : DE} {ft : DT}
theorem pssd_nil : PSsD X [] dNx := fun g hg => pss_nil.wk fun E σ H t => by
  obtain ⟨F, ρ, r, fl, e, q⟩ := t
  cases e
  exact q σ H F (Post.refl r)
theorem pssd_cons (h1 : PSD X st f1) (h2 : PSsD X rest f2) : PSsD X (st :: rest) (dSeq f1 f2) := fun g hg => (pss_cons (h1 g hg) (h2 g hg)).wk fun E σ H t => by
  obtain ⟨F, ρ, r, fl, e, q⟩ := t
  obtain ⟨fl1, e1, e⟩ := Option.bind_eq_some_iff.mp e
  refine ⟨F, ρ, r, fl1, e1, ?_⟩
  cases fl1 with
  | nx ρ1 => exact fun σ1 H1 F1 p1 => ⟨F1, ρ1, p1.rel, fl, e, q.from r p1⟩
  | bk ρ1 => cases e; exact q
  | ct ρ1 => cases e; exact q
  | rt w ρ1 => cases e; exact q
theorem pssd_one (h1 : PSD X st f1) : PSsD X [st] f1 := fun g hg => pss_one (h1 g hg)
theorem psd_if {a b : List Stmt} (hc : PTD X c ft) (ha : PSsD X a f1) (hb : PSsD X b f2) : PSD X (.If c a b pos) (dIfS ft f1 f2) := fun g hg => (ps_if (hc g hg) (ha g hg) (hb g hg)).wk fun E σ H t => by
  obtain ⟨F, ρ, r, fl, e, q⟩ := t
  obtain ⟨⟨x, ρ1⟩, e1, e⟩ := Option.bind_eq_some_iff.mp e
  refine ⟨F, ρ, r, x, ρ1, e1, fun H1 F1 p1 => ?_⟩
  cases x with
  | true =>
    rw [if_pos rfl] at e ⊢
    exact ⟨F1, ρ1, p1.post.rel, fl, e, q.from r p1.post⟩
  | false =>
    rw [if_neg (show ¬ (false = true) from Bool.false_ne_true)] at e ⊢
    exact ⟨F1, ρ1, p1.post.rel, fl, e, q.from r p1.post⟩
theorem psd_ret (ha : PED X e fa) : PSD X (.Return (some e) pos) (dRet fa) := fun g hg => (ps_ret (ha g hg)).wk fun E σ H t => by
  obtain ⟨F, ρ, r, fl, e, q⟩ := t
  obtain ⟨⟨x, ρ1⟩, e1, e⟩ := Option.map_eq_some_iff.mp e
  cases e
  exact ⟨F, ρ, r, x, ρ1, e1, fun v H1 F1 p1 => q v σ H1 F1 p1.t.post p1.rw⟩
theorem psd_retN : PSD X (.Return none pos) dRetN := fun g hg => ps_retN.wk fun E σ H t => by
  obtain ⟨F, ρ, r, fl, e, q⟩ := t
  cases e
  exact q .non σ H F (Post.refl r) Dt.non
theorem psd_pass : PSD X (.Pass pos) dNx := fun g hg => ps_pass.wk fun E σ H t => by
  obtain ⟨F, ρ, r, fl, e, q⟩ := t
  cases e
  exact q σ H F (Post.refl r)
theorem psd_break : PSD X (.Break pos) dBk := fun g hg => ps_break.wk fun E σ H t => by
  obtain ⟨F, ρ, r, fl, e, q⟩ := t
  cases e
  exact q σ H F (Post.refl r)
theorem psd_continue : PSD X (.Continue pos) dCt := fun g hg => ps_continue.wk fun E σ H t => by
  obtain ⟨F, ρ, r, fl, e, q⟩ := t
  cases e
  exact q σ H F (Post.refl r)
theorem psd_expr (ha : PED X e fa) (hs : swapsWith e none pos.line X.env = pure false := by rfl) : PSD X (.Expr e pos) (dDrop fa) := fun g hg => (ps_expr (ha g hg) hs).wk fun E σ H t => by
  obtain ⟨F, ρ, r, fl, e, q⟩ := t
  obtain ⟨⟨x, ρ1⟩, e1, e⟩ := Option.map_eq_some_iff.mp e
  cases e
  exact ⟨F, ρ, r, x, ρ1, e1, fun v H1 F1 p1 => q σ H1 F1 p1.t.post⟩
theorem psd_never : PSD X st dNever := fun g hg => ps_never.wk fun E σ H t => by
  obtain ⟨F, ρ, r, fl, e, q⟩ := t
  cases e
end

/-! ### targets -/
abbrev DG := D → En → Option En
abbrev DGs := List D → En → Option En
/-- only the slots at is have changed -/
def Only (is : List Nat) (σ σ' : St) : Prop := ∀ vs : List Nat, (∀ i ∈ is, i ∈ vs) → wipe σ' vs = wipe σ vs
/-- the other slots are still there -/
def Pres (is : List Nat) (ρ ρ' : En) : Prop := ∀ (i : Nat) (s : Sl), i ∉ is → ρ.sl[i]? = some (some s) → ∃ s', ρ'.sl[i]? = some (some s')
def tG (g : G) (f : DG) (is : List Nat) : TG := fun v σ H Q => ∃ F ρ d, Rel g F ρ σ H ∧ Dt g.K F H d v ∧ ∃ ρ', f d ρ = some ρ' ∧ ∀ σ', Rel g F ρ' σ' H → (∀ b, OwnAt ρ' σ' b → OwnAt ρ σ b) → Only is σ σ' → Pres is ρ ρ' → Q σ' H
def tGs (g : G) (f : DGs) (is : List Nat) : TGs := fun vs σ H Q => ∃ F ρ ds, Rel g F ρ σ H ∧ Dts g.K F H ds vs ∧ ∃ ρ', f ds ρ = some ρ' ∧ ∀ σ', Rel g F ρ' σ' H → (∀ b, OwnAt ρ' σ' b → OwnAt ρ σ b) → Only is σ σ' → Pres is ρ ρ' → Q σ' H
def PGD (X : Cx) (e : Expr) (f : DG) (is : List Nat) : Prop := ∀ g : G, g.K = X.K → PG X e (tG g f is)
def PGsD (X : Cx) (es : List Expr) (f : DGs) (is : List Nat) : Prop := ∀ g : G, g.K = X.K → PGs X es (tGs g f is)
theorem _root_.L2.PG.wk {X : Cx} {e : Expr} {t t' : TG} (h : PG X e t) (hi : ∀ v σ H Q, t' v σ H Q → t v σ H Q) : PG X e t' := ⟨fun pins s σ H v u Q I r q => h.run pins s σ H v u Q I r (hi v σ H Q q)⟩
theorem _root_.L2.PGs.wk {X : Cx} {e : List Expr} {t t' : TGs} (h : PGs X e t) (hi : ∀ v σ H Q, t' v σ H Q → t v σ H Q) : PGs X e t' := ⟨fun pins s σ H v u Q I r q => h.run pins s σ H v u Q I r (hi v σ H Q q)⟩
theorem wipe_set {σ : St} {i : Nat} {x : Option V} : ∀ {vs : List Nat}, i ∈ vs → wipe (σ.set i x) vs = wipe σ vs
  | v :: vs, h => by
    unfold wipe
    by_cases e : v = i
    · subst e
      by_cases m : v ∈ vs
      · rw [wipe_set m]
      · have key : ∀ (vs : List Nat), v ∉ vs → wipe (σ.set v x) vs = (wipe σ vs).set v x := by
          intro vs
          induction vs with
          | nil => intro _; rfl
          | cons w ws ih =>
            intro hn
            unfold wipe
            rw [ih (fun z => hn (List.mem_cons_of_mem _ z)), List.set_comm _ _ (fun z => hn (by rw [z]; exact List.mem_cons_self))]
        rw [key vs m, List.set_set]
    · have m : i ∈ vs := by
        rcases List.mem_cons.mp h with z | z
        · exact absurd z.symm e
        · exact z
      rw [wipe_set m]
theorem only_set {σ : St} {i : Nat} {x : Option V} : Only [i] σ (σ.set i x) := fun vs h => wipe_set (h i (by simp))
def gN (i : Nat) : DG := fun d ρ => ρ.set i (.sh d)
def gNil : DGs := fun ds ρ => match ds with
  | [] => some ρ
  | _ => none
def gCons (f : DG) (fs : DGs) : DGs := fun ds ρ => match ds with
  | d :: ds => (f d ρ).bind fun ρ1 => fs ds ρ1
  | _ => none
def gTup (n : Nat) (fs : DGs) : DG := fun d ρ => match d with
  | .tuple ds => if ds.length = n then fs ds ρ else none
  | _ => none
section
variable {X : Cx} {pos : Pos} {e : Expr} {es : List Expr} {f : DG} {fs : DGs} {is js : List Nat}
theorem pgd_name {i : Nat} {x : Str} (h : PG X (.Name x pos) (gName i)) : PGD X (.Name x pos) (gN i) [i] := fun g hg => h.wk fun v σ H Q t => by
  obtain ⟨F, ρ, d, r, h, ρ', e, q⟩ := t
  obtain ⟨r', o⟩ := r.setSh h e
  obtain ⟨_, _, rfl⟩ := En.set_some e
  exact q _ r' o only_set fun j s hj e => ⟨s, by show (ρ.sl.set i _)[j]? = _; rw [List.getElem?_set_ne (fun z => hj (by simp [z]))]; exact e⟩
theorem pgsd_nil : PGsD X [] gNil [] := fun g hg => pgs_nil.wk fun v σ H Q t => by
  obtain ⟨F, ρ, ds, r, h, ρ', e, q⟩ := t
  cases h with
  | nil => cases e; exact ⟨rfl, q _ r (fun _ h => h) (fun vs _ => rfl) fun _ s _ e => ⟨s, e⟩⟩
  | cons _ _ => cases e
theorem pgsd_cons (h1 : PGD X e f is) (h2 : PGsD X es fs js) (hs : (assignEach (e :: es) X.env).map (·.2) = assign e X.env :: (assignEach es X.env).map (·.2) := by rfl) : PGsD X (e :: es) (gCons f fs) (is ++ js) := fun g hg => (pgs_cons (h1 g hg) (h2 g hg) hs).wk fun v σ H Q t => by
  obtain ⟨F, ρ, ds, r, h, ρ', e, q⟩ := t
  cases h with
  | nil => cases e
  | cons h t =>
    obtain ⟨ρ1, e1, e2⟩ := Option.bind_eq_some_iff.mp e
    refine ⟨_, _, rfl, F, ρ, _, r, h, ρ1, e1, fun σ1 r1 o1 y1 z1 => ⟨F, ρ1, _, r1, t, ρ', e2, fun σ2 r2 o2 y2 z2 => q σ2 r2 (fun b z => o1 b (o2 b z)) (fun vs hv => ?_) fun i s hi e => ?_⟩⟩
    · rw [y2 vs (fun i hi => hv i (List.mem_append_right _ hi)), y1 vs (fun i hi => hv i (List.mem_append_left _ hi))]
    · obtain ⟨s1, e1⟩ := z1 i s (fun m => hi (List.mem_append_left _ m)) e
      exact z2 i s1 (fun m => hi (List.mem_append_right _ m)) e1
theorem pgd_tup {k n : Nat} (hc : X.calm = true) (h : PGsD X es fs is) (hn : (assignEach es X.env).length = n := by rfl) (hst : (assignEach es X.env).findIdx? (·.1) = none := by rfl) : PGD X (.Tuple es k pos) (gTup n fs) is := fun g hg => (pg_tup hc (h g hg) hn hst).wk fun v σ H Q t => by
  obtain ⟨F, ρ, d, r, h, ρ', e, q⟩ := t
  unfold gTup at e
  split at e
  · split at e
    · rename_i ds hl
      cases h with
      | tup h1 d1 => exact ⟨_, _, rfl, hg ▸ h1, by rw [← d1.length]; exact hl, F, ρ, ds, r, d1, ρ', e, q⟩
    · cases e
  · cases e
end

/-! ### assignments -/
/-- results that name a slot are given away ahead of the stores -/
def settle : List W → En → Option (List W × En)
  | [], ρ => some ([], ρ)
  | .vr i :: ws, ρ => ((W.vr i).give ρ).bind fun x => (settle ws x.2).map fun y => (.sh x.1 :: y.1, y.2)
  | w :: ws, ρ => (settle ws ρ).map fun y => (w :: y.1, y.2)
/-- a settled result is stored -/
def En.put (ρ : En) (i : Nat) : W → Option En
  | .sh d => ρ.set i (.sh d)
  | .fr d => ρ.set i (.own d)
  | .vr _ => none
def puts : List Nat → List W → En → Option En
  | [], [], ρ => some ρ
  | i :: is, w :: ws, ρ => (ρ.put i w).bind fun ρ1 => puts is ws ρ1
  | _, _, _ => none
section
variable {g : G} {F F1 F2 F' : Rg} {ρ ρ1 ρ2 ρ' : En} {σ σ1 σ' : St} {H H1 H2 H' : Hp}
def noVr : W → Prop
  | .vr _ => False
  | _ => True
/-- settled results -/
def Settled (g : G) (σ : St) (H : Hp) (ws : List W) (vs : List V) (us : List W) (F : Rg) (ρ ρ' : En) : Prop :=
    ∃ F' : Rg, (∀ a, F a → F' a) ∧ (∀ a, F' a → F a ∨ OwnAt ρ σ a) ∧ Rel g F' ρ' σ H ∧ RWs g F' ρ' σ H vs us ∧ (∀ u ∈ us, noVr u) ∧ (∀ b, OwnAt ρ' σ b → OwnAt ρ σ b) ∧
      (∀ (i : Nat) (s : Sl), ρ.sl[i]? = some (some s) → ∃ s', ρ'.sl[i]? = some (some s')) ∧ (∀ (i : Nat) (y : W) (u : V) (a : Addr), us[i]? = some y → vs[i]? = some u → frAt y u a → ∃ z, ws[i]? = some z ∧ frAt z u a)
theorem settle_ok : ∀ {ws : List W} {vs : List V} {us : List W} {F : Rg} {ρ ρ' : En}, Rel g F ρ σ H → RWs g F ρ σ H vs ws → settle ws ρ = some (us, ρ') → Settled g σ H ws vs us F ρ ρ'
  | [], _, us, F, ρ, ρ', r, .nil, e => by
    cases e
    exact ⟨F, fun _ h => h, fun _ h => .inl h, r, .nil, fun u hu => by simp at hu, fun _ h => h, fun _ s h => ⟨s, h⟩, fun i y u a h => by simp at h⟩
  | w :: ws, v :: vs, us, F, ρ, ρ', r, .cons h t n, e => by
    have easy : noVr w → (∃ y, settle ws ρ = some y ∧ us = w :: y.1 ∧ ρ' = y.2) → Settled g σ H (w :: ws) (v :: vs) us F ρ ρ' := fun nv hy => by
      obtain ⟨⟨us', ρ2⟩, e2, rfl, rfl⟩ := hy
      obtain ⟨F2, m2, n2, r2, t2, v2, s2, p2, c2⟩ := settle_ok r t e2
      refine ⟨F2, m2, n2, r2, .cons (h.ghost m2 (fun a f f2 => ?_) s2 p2) t2 (fun a f i y u h1 h2 h3 => ?_), fun u hu => ?_, s2, p2, fun i y u a h1 h2 h3 => ?_⟩
      · obtain ⟨⟨d', rfl⟩, rfl⟩ := f
        obtain ⟨b, eb, o, nF, no, _⟩ := h
        cases eb
        rcases n2 a f2 with z | z
        · exact nF z
        · exact no z
      · obtain ⟨z, z1, z2⟩ := c2 i y u a h1 h2 h3
        exact n a f i z u z1 h2 z2
      · rcases List.mem_cons.mp hu with rfl | hu
        · exact nv
        · exact v2 u hu
      · cases i with
        | zero =>
          simp at h1 h2
          subst h1 h2
          exact ⟨w, rfl, h3⟩
        | succ i => exact c2 i y u a (by simpa using h1) (by simpa using h2) h3
    cases w with
    | sh d =>
      refine easy trivial ?_
      obtain ⟨y, e1, e2⟩ := Option.map_eq_some_iff.mp e
      cases e2
      exact ⟨y, e1, rfl, rfl⟩
    | fr d =>
      refine easy trivial ?_
      obtain ⟨y, e1, e2⟩ := Option.map_eq_some_iff.mp e
      cases e2
      exact ⟨y, e1, rfl, rfl⟩
    | vr j =>
      obtain ⟨⟨d, ρ1⟩, e1, e⟩ := Option.bind_eq_some_iff.mp e
      obtain ⟨⟨us', ρ2⟩, e2, e⟩ := Option.map_eq_some_iff.mp e
      cases e
      obtain ⟨F1, m1, n1, r1, d1, s1, p1, _⟩ := give_ok r h e1
      have n1' : ∀ a, F1 a → F a ∨ OwnAt ρ σ a := fun a f => by
        rcases n1 a f with z | z | ⟨⟨_, z⟩, _⟩
        · exact .inl z
        · exact .inr z
        · cases z
      have t1 : RWs g F1 ρ1 σ H vs ws := by
        have key : ∀ {vs' : List V} {ws' : List W}, RWs g F ρ σ H vs' ws' → RWs g F1 ρ1 σ H vs' ws' := by
          intro vs' ws' q
          induction q with
          | nil => exact .nil
          | cons h' t' n' ih =>
            refine .cons (h'.ghost m1 (fun a f f1 => ?_) s1 p1) ih n'
            obtain ⟨⟨d', rfl⟩, rfl⟩ := f
            obtain ⟨b, eb, o, nF, no, _⟩ := h'
            cases eb
            rcases n1' a f1 with z1 | z1
            · exact nF z1
            · exact no z1
        exact key t
      obtain ⟨F2, m2, n2, r2, t2, v2, s2, p2, c2⟩ := settle_ok r1 t1 e2
      refine ⟨F2, fun a z => m2 a (m1 a z), fun a z => ?_, r2, .cons (Dt.keeps ⟨m2, fun _ _ h => h, fun _ _ _ h => h, fun _ _ _ h => h⟩ d1) t2 (fun a f => by obtain ⟨⟨_, z⟩, _⟩ := f; cases z), fun u hu => ?_, fun b z => s1 b (s2 b z), fun i s z => let ⟨s', z'⟩ := p1 i s z; p2 i s' z', fun i y u a h1 h2 h3 => ?_⟩
      · rcases n2 a z with z | z
        · exact n1' a z
        · exact .inr (s1 a z)
      · rcases List.mem_cons.mp hu with rfl | hu
        · trivial
        · exact v2 u hu
      · cases i with
        | zero =>
          simp at h1 h2
          subst h1
          obtain ⟨⟨_, z⟩, _⟩ := h3
          cases z
        | succ i => exact c2 i y u a (by simpa using h1) (by simpa using h2) h3
/-- σ with the values vs at the slots is -/
def setsσ : List Nat → List V → St → St
  | i :: is, v :: vs, σ => setsσ is vs (σ.set i (some v))
  | _, _, σ => σ
theorem puts_ok : ∀ {is : List Nat} {ws : List W} {vs : List V} {ρ ρ' : En} {σ : St}, Rel g F ρ σ H → RWs g F ρ σ H vs ws → (∀ u ∈ ws, noVr u) → puts is ws ρ = some ρ' →
    Rel g F ρ' (setsσ is vs σ) H ∧ ∀ b, OwnAt ρ' (setsσ is vs σ) b → OwnAt ρ σ b ∨ ∃ (i : Nat) (y : W) (u : V), ws[i]? = some y ∧ vs[i]? = some u ∧ frAt y u b
  | [], ws, vs, ρ, ρ', σ, r, t, nv, e => by
    cases ws with
    | nil => cases e; exact ⟨r, fun b h => .inl h⟩
    | cons w ws => cases e
  | i :: is, [], _, ρ, ρ', σ, r, t, nv, e => by cases e
  | i :: is, w :: ws, v :: vs, ρ, ρ', σ, r, .cons h t n, nv, e => by
    obtain ⟨ρ1, e1, e2⟩ := Option.bind_eq_some_iff.mp e
    have step : Rel g F ρ1 (σ.set i (some v)) H ∧ ∀ b, OwnAt ρ1 (σ.set i (some v)) b → OwnAt ρ σ b ∨ frAt w v b := by
      cases w with
      | sh d =>
        obtain ⟨r1, o1⟩ := r.setSh h e1
        exact ⟨r1, fun b z => .inl (o1 b z)⟩
      | fr d =>
        obtain ⟨r1, o1⟩ := r.setFr h e1
        exact ⟨r1, fun b z => (o1 b z).imp id fun z => ⟨⟨_, rfl⟩, z⟩⟩
      | vr j => exact (show False from nv (.vr j) (by simp)).elim
    obtain ⟨r1, o1⟩ := step
    have t1 : RWs g F ρ1 (σ.set i (some v)) H vs ws := by
      have key : ∀ {vs' : List V} {ws' : List W}, RWs g F ρ σ H vs' ws' → (∀ u ∈ ws', noVr u) → (∀ a, frAt w v a → ∀ (i : Nat) y u, ws'[i]? = some y → vs'[i]? = some u → ¬ frAt y u a) → RWs g F ρ1 (σ.set i (some v)) H vs' ws' := by
        intro vs' ws' q
        induction q with
        | nil => intro _ _; exact .nil
        | @cons v' w' vs'' ws'' h' t' n' ih =>
          intro nv' z
          refine .cons ?_ (ih (fun u hu => nv' u (List.mem_cons_of_mem _ hu)) fun a f i y u h1 h2 => z a f (i + 1) y u (by simpa using h1) (by simpa using h2)) n'
          cases w' with
          | sh d => exact h'
          | fr d =>
            obtain ⟨a, ea, o, nF, no, f⟩ := h'
            refine ⟨a, ea, o, nF, fun q => ?_, f⟩
            rcases o1 a q with q | q
            · exact no q
            · exact z a q 0 _ _ rfl rfl ⟨⟨_, rfl⟩, ea⟩
          | vr j => exact (show False from nv' (.vr j) (by simp)).elim
      exact key t (fun u hu => nv u (List.mem_cons_of_mem _ hu)) n
    obtain ⟨r2, o2⟩ := puts_ok (is := is) r1 t1 (fun u hu => nv u (List.mem_cons_of_mem _ hu)) e2
    refine ⟨r2, fun b z => ?_⟩
    rcases o2 b z with z | ⟨j, y, u, z1, z2, z3⟩
    · rcases o1 b z with z | z
      · exact .inl z
      · exact .inr ⟨0, w, v, rfl, rfl, z⟩
    · exact .inr ⟨j + 1, y, u, by simpa using z1, by simpa using z2, z3⟩
/-- behind the stores, told from ahead of the evaluation -/
theorem APo.puts {ws us : List W} {vs : List V} {is : List Nat} (p : APo g F ρ σ H ws ρ1 vs F1 H1) (e1 : settle ws ρ1 = some (us, ρ2)) (e2 : PD.puts is us ρ2 = some ρ') :
    ∃ F', Post g F ρ σ H F' ρ' (setsσ is vs σ) H1 := by
  obtain ⟨F2, m2, n2, r2, t2, v2, s2, p2, c2⟩ := settle_ok p.t.post.rel p.rw e1
  obtain ⟨r3, o3⟩ := puts_ok (is := is) r2 t2 v2 e2
  have q := p.t.post
  refine ⟨F2, r3, fun a h => m2 a (q.mono a h), q.kept, q.there, fun b h => ?_, fun b h => ?_⟩
  · rcases n2 b h with z | z
    · exact q.newF b z
    · exact .inr (.inr (p.t.shr b z))
  · rcases o3 b h with z | ⟨i, y, u, z1, z2, z3⟩
    · exact .inl (p.t.shr b (s2 b z))
    · obtain ⟨z, y1, y2⟩ := c2 i y u b z1 z2 z3
      exact .inr (p.new i z u b y1 z2 y2)
end
/-- name = value -/
def dSet (i : Nat) (fa : DE) : DS := fun ρ => (fa ρ).bind fun x => (settle [x.1] x.2).bind fun y => (puts [i] y.1 y.2).map .nx
/-- a, b, .. = x, y, .. -/
def dPar (is : List Nat) (fs : DA) : DS := fun ρ => (fs ρ).bind fun x => (settle x.1 x.2).bind fun y => (puts is y.1 y.2).map .nx
/-- a, b, .. = a tuple's places -/
def dUnp (tg : DG) (fa : DE) : DS := fun ρ => (fa ρ).bind fun x => match x.1 with
  | .sh d => (tg d x.2).map .nx
  | _ => none
section
variable {X : Cx} {pos : Pos} {e : Expr} {fa : DE} {fs : DA}
theorem EPo.apo {g : G} {F F1 : Rg} {ρ ρ1 : En} {σ : St} {H H1 : Hp} {w : W} {v : V} (p : EPo g F ρ σ H w ρ1 v F1 H1) : APo g F ρ σ H [w] ρ1 [v] F1 H1 :=
  ⟨p.t, .cons p.rw .nil fun a f i y u h => by simp at h, fun i y u a h1 h2 h3 => by
    cases i with
    | zero =>
      simp at h1 h2
      subst h1 h2
      exact p.new a h3
    | succ i => simp at h1⟩
theorem set_ok {g : G} {i : Nat} {E : Ends} {σ : St} {H : Hp} (t : tS g (dSet i fa) E σ H) : tE g fa σ H (fun x H1 => gName i x σ H1 E.nx) := by
  obtain ⟨F, ρ, r, fl, e, q⟩ := t
  obtain ⟨⟨x, ρ1⟩, e1, e⟩ := Option.bind_eq_some_iff.mp e
  obtain ⟨⟨us, ρ2⟩, e2, e⟩ := Option.bind_eq_some_iff.mp e
  obtain ⟨ρ3, e3, e⟩ := Option.map_eq_some_iff.mp e
  cases e
  refine ⟨F, ρ, r, x, ρ1, e1, fun v H1 F1 p1 => ?_⟩
  obtain ⟨F', p⟩ := p1.apo.puts e2 e3
  exact q _ H1 F' p
theorem psd_of_set {i : Nat} {tg : Expr} {te : G → TE} (hp : ∀ g : G, g.K = X.K → PS X (.Assign [tg] e pos) (tAsg (te g) (gName i))) (ht : ∀ g, te g = tE g fa) : PSD X (.Assign [tg] e pos) (dSet i fa) := fun g hg => (hp g hg).wk fun E σ H t => by
  rw [ht]
  obtain ⟨F, ρ, r, fl, e, q⟩ := t
  obtain ⟨⟨x, ρ1⟩, e1, e⟩ := Option.bind_eq_some_iff.mp e
  obtain ⟨⟨us, ρ2⟩, e2, e⟩ := Option.bind_eq_some_iff.mp e
  obtain ⟨ρ3, e3, e⟩ := Option.map_eq_some_iff.mp e
  cases e
  refine ⟨F, ρ, r, x, ρ1, e1, fun v H1 F1 p1 => ?_⟩
  obtain ⟨F', p⟩ := p1.apo.puts e2 e3
  exact q _ H1 F' p
theorem psd_set {i : Nat} {x : Str} {pos' : Pos} (hN : X.N.Nodup) (hi : X.N[i]? = some x) (hx : Loc X.env.scope x) (ha : PED X e fa) (hs : swapsWith e (some (.Name x pos')) pos.line X.env = pure false := by rfl)
    (hf : X.fn x = true ∨ X.env.scope.names.lookup x = some .local := by first | exact .inl rfl | exact .inr rfl | assumption) : PSD X (.Assign [.Name x pos'] e pos) (dSet i fa) :=
  psd_of_set (te := fun g => tE g fa) (fun g hg => ps_set hN hi hx (ha g hg) hs hf) fun _ => rfl
theorem psd_unp {tg : Expr} {f : DG} {is : List Nat} (ha : PED X e fa) (ht : PGD X tg f is) (hs : swapsWithSole [tg] e pos.line X.env = pure false := by rfl) (hw : swappedStores [tg] e X.env = pure none := by rfl)
    (h1 : (assignEach [tg] X.env).map (·.2) = [assign tg X.env] := by rfl) : PSD X (.Assign [tg] e pos) (dUnp f fa) := fun g hg => (ps_asg (ha g hg) (ht g hg) hs hw h1).wk fun E σ H t => by
  obtain ⟨F, ρ, r, fl, e, q⟩ := t
  obtain ⟨⟨x, ρ1⟩, e1, e⟩ := Option.bind_eq_some_iff.mp e
  refine ⟨F, ρ, r, x, ρ1, e1, fun v H1 F1 p1 => ?_⟩
  simp only at e
  split at e
  · obtain ⟨ρ2, e2, e⟩ := Option.map_eq_some_iff.mp e
    cases e
    have p := p1.t.post
    refine ⟨F1, ρ1, _, p.rel, sh_inv p1.rw, ρ2, e2, fun σ' r' o' _ _ => q σ' H1 F1 ⟨r', p.mono, p.kept, p.there, p.newF, fun b h => p.newO b (o' b h)⟩⟩
  · cases e
/-- two plain names at once -/
theorem psd_par2 {i j : Nat} {x y : Str} {a b : Expr} {px py pt : Pos} {kt k2 pt2} (hc : X.calm = true) (hN : X.N.Nodup) (hi : X.N[i]? = some x) (hj : X.N[j]? = some y) (hij : i ≠ j)
    (hx : X.env.scope.names.lookup x = some .local) (hy : X.env.scope.names.lookup y = some .local) (ha : PAD X [a, b] fs)
    (hw : swappedStores [.Tuple [.Name x px, .Name y py] kt pt] (.Tuple [a, b] k2 pt2) X.env = pure (some [x, y]) := by rfl)
    (hs : swapsWithSole [.Tuple [.Name x px, .Name y py] kt pt] (.Tuple [a, b] k2 pt2) pos.line X.env = pure false := by rfl) :
    PSD X (.Assign [.Tuple [.Name x px, .Name y py] kt pt] (.Tuple [a, b] k2 pt2) pos) (dPar [i, j] fs) := fun g hg => (ps_par hc hN hi hj hij hx hy (ha g hg) hw hs).wk fun E σ H t => by
  obtain ⟨F, ρ, r, fl, e, q⟩ := t
  obtain ⟨⟨ws, ρ1⟩, e1, e⟩ := Option.bind_eq_some_iff.mp e
  obtain ⟨⟨us, ρ2⟩, e2, e⟩ := Option.bind_eq_some_iff.mp e
  obtain ⟨ρ3, e3, e⟩ := Option.map_eq_some_iff.mp e
  cases e
  refine ⟨F, ρ, r, ws, ρ1, e1, fun vs H1 F1 p1 => ?_⟩
  obtain ⟨F', p⟩ := p1.puts e2 e3
  have hl := p1.rw.length
  have hu : us.length = vs.length := by
    obtain ⟨F2, _, _, _, t2, _⟩ := settle_ok p1.t.post.rel p1.rw e2
    exact t2.length
  have h2 : us.length = 2 := by
    match us, e3 with
    | [_, _], _ => rfl
    | [], e3 => cases e3
    | [_], e3 => simp [PD.puts] at e3
    | _ :: _ :: _ :: _, e3 => simp [PD.puts] at e3
  match vs, hu.symm.trans h2 with
  | [v, w], _ => exact ⟨v, w, rfl, q _ H1 F' p⟩
theorem psd_par3 {i j l : Nat} {x y z : Str} {a b c : Expr} {px py pz pt : Pos} {kt k2 pt2} (hc : X.calm = true) (hN : X.N.Nodup) (hi : X.N[i]? = some x) (hj : X.N[j]? = some y) (hl : X.N[l]? = some z) (hij : i ≠ j) (hil : i ≠ l) (hjl : j ≠ l)
    (hx : X.env.scope.names.lookup x = some .local) (hy : X.env.scope.names.lookup y = some .local) (hz : X.env.scope.names.lookup z = some .local) (ha : PAD X [a, b, c] fs)
    (hw : swappedStores [.Tuple [.Name x px, .Name y py, .Name z pz] kt pt] (.Tuple [a, b, c] k2 pt2) X.env = pure (some [x, y, z]) := by rfl)
    (hs : swapsWithSole [.Tuple [.Name x px, .Name y py, .Name z pz] kt pt] (.Tuple [a, b, c] k2 pt2) pos.line X.env = pure false := by rfl) :
    PSD X (.Assign [.Tuple [.Name x px, .Name y py, .Name z pz] kt pt] (.Tuple [a, b, c] k2 pt2) pos) (dPar [i, j, l] fs) := fun g hg => (ps_par3 hc hN hi hj hl hij hil hjl hx hy hz (ha g hg) hw hs).wk fun E σ H t => by
  obtain ⟨F, ρ, r, fl, e, q⟩ := t
  obtain ⟨⟨ws, ρ1⟩, e1, e⟩ := Option.bind_eq_some_iff.mp e
  obtain ⟨⟨us, ρ2⟩, e2, e⟩ := Option.bind_eq_some_iff.mp e
  obtain ⟨ρ3, e3, e⟩ := Option.map_eq_some_iff.mp e
  cases e
  refine ⟨F, ρ, r, ws, ρ1, e1, fun vs H1 F1 p1 => ?_⟩
  obtain ⟨F', p⟩ := p1.puts e2 e3
  have hu : us.length = vs.length := by
    obtain ⟨F2, _, _, _, t2, _⟩ := settle_ok p1.t.post.rel p1.rw e2
    exact t2.length
  have h2 : us.length = 3 := by
    match us, e3 with
    | [_, _, _], _ => rfl
    | [], e3 => cases e3
    | [_], e3 => simp [PD.puts] at e3
    | [_, _], e3 => simp [PD.puts] at e3
    | _ :: _ :: _ :: _ :: _, e3 => simp [PD.puts] at e3
  match vs, hu.symm.trans h2 with
  | [u, v, w], _ => exact ⟨u, v, w, rfl, q _ H1 F' p⟩
/-- names that are stored one after another -/
def gNs : List Nat → L2.TGs
  | [] => L2.gNil
  | i :: is => L2.gCons (gName i) (gNs is)
theorem gNs_run {Q : St → Hp → Prop} : ∀ {is : List Nat} {vs : List V} {σ : St} {H : Hp}, is.length = vs.length → Q (setsσ is vs σ) H → gNs is vs σ H Q
  | [], [], _, _, _, h => ⟨rfl, h⟩
  | [], _ :: _, _, _, e, _ => by simp at e
  | _ :: _, [], _, _, e, _ => by simp at e
  | i :: is, v :: vs, σ, H, e, h => ⟨v, vs, rfl, gNs_run (is := is) (by simpa using e) h⟩
/-- any number of names at once, by the tuple -/
theorem psd_parT {is : List Nat} {ts es : List Expr} {pt : Pos} {kt k2 pt2} (hc : X.calm = true) (hT : PGs X ts (gNs is)) (hn : (assignEach ts X.env).length = is.length := by rfl) (hst : (assignEach ts X.env).findIdx? (·.1) = none := by rfl) (ha : PAD X es fs) (hle : is.length ≤ 100 := by decide)
    (hs : swapsWithSole [.Tuple ts kt pt] (.Tuple es k2 pt2) pos.line X.env = pure false := by rfl) (hw : swappedStores [.Tuple ts kt pt] (.Tuple es k2 pt2) X.env = pure none := by rfl)
    (h1 : (assignEach [Expr.Tuple ts kt pt] X.env).map (·.2) = [assign (.Tuple ts kt pt) X.env] := by rfl) :
    PSD X (.Assign [.Tuple ts kt pt] (.Tuple es k2 pt2) pos) (dPar is fs) := fun g hg => (ps_asg (pe_tup (ha g hg)) (pg_tup hc hT hn hst) hs hw h1).wk fun E σ H t => by
  obtain ⟨F, ρ, r, fl, e, q⟩ := t
  obtain ⟨⟨ws, ρ1⟩, e1, e⟩ := Option.bind_eq_some_iff.mp e
  obtain ⟨⟨us, ρ2⟩, e2, e⟩ := Option.bind_eq_some_iff.mp e
  obtain ⟨ρ3, e3, e⟩ := Option.map_eq_some_iff.mp e
  cases e
  refine ⟨F, ρ, r, ws, ρ1, e1, fun vs H1 F1 p1 => ?_⟩
  have hu : us.length = vs.length := by
    obtain ⟨F2, _, _, _, t2, _⟩ := settle_ok p1.t.post.rel p1.rw e2
    exact t2.length
  have hi : ∀ {is : List Nat} {us : List W} {ρ2 : En}, PD.puts is us ρ2 = some ρ3 → is.length = us.length := by
    intro is
    induction is with
    | nil => intro us ρ2 e; cases us with
      | nil => rfl
      | cons _ _ => cases e
    | cons i is ih => intro us ρ2 e; cases us with
      | nil => cases e
      | cons u us =>
        obtain ⟨ρ4, _, e4⟩ := Option.bind_eq_some_iff.mp e
        simp [ih e4]
  have hil : is.length = us.length := hi e3
  refine ⟨by rw [sizeLine_eq]; omega, fun p hp => ⟨p, vs, rfl, .inl (.inl upd_same), by omega, gNs_run (by omega) ?_⟩⟩
  -- the tuple itself is read by nobody
  have pk : APo g F ρ σ H ws ρ1 vs F1 (upd H1 p (.tup vs)) := by
    have tk := TPo.keptAll p1.t.post.rel (upd_kept (o := .tup vs) hp)
    exact ⟨p1.t.trans r tk, p1.rw.step p1.t.post.rel tk, p1.new⟩
  obtain ⟨F', p'⟩ := pk.puts e2 e3
  exact q _ _ F' p'
end
end PD
set_option Elab.async false
set_option linter.all false
set_option maxRecDepth 100000
set_option maxHeartbeats 4000000
/-! PD7: what is walked; for, while; list comprehensions. -/
namespace PD
set_option autoImplicit false
open PySem PySem.Spec L2
open PyProof.Rows hiding St

/-- an iterator that gives the data ds, one after another, while what is read stays -/
def ItOk (K : PySem.W.Frag) (F : Rg) (H : Hp) (J : It) (ds : List D) : Prop := ∃ (Gd : Hp → Prop) (Y : Nat → Hp → V → Hp → Prop), Walk J ds.length Gd Y ∧ (∀ F2 H2, Keeps F F2 H H2 → Gd H2) ∧
  ∀ (i : Nat) (d : D) (F2 : Rg) (H2 : Hp) (x : V) (H3 : Hp), ds[i]? = some d → Keeps F F2 H H2 → Y i H2 x H3 → NewR K F2 H2 x H3 (.sh d)
abbrev DI := En → Option (List D × En)
def tI (g : G) (f : DI) : TI := fun σ H R => ∃ F ρ, Rel g F ρ σ H ∧ ∃ ds ρ', f ρ = some (ds, ρ') ∧ ∀ J H' F', TPo g F ρ σ H F' ρ' H' → ItOk g.K F' H' J ds → R J H'
def PID (X : Cx) (tg iter : Expr) (f : DI) : Prop := ∀ g : G, g.K = X.K → PI X tg iter (tI g f)
theorem _root_.L2.PI.wk {X : Cx} {tg e : Expr} {t t' : TI} (h : PI X tg e t) (hi : ∀ σ H Q, t' σ H Q → t σ H Q) : PI X tg e t' := ⟨fun pins s σ H Q I q => h.run pins s σ H Q I (hi σ H Q q)⟩
theorem Keeps.trans {F F1 F2 : Rg} {H H1 H2 : Hp} (a : Keeps F F1 H H1) (b : Keeps F1 F2 H1 H2) : Keeps F F2 H H2 :=
  ⟨fun x h => b.inn x (a.inn x h), fun x xs h => b.tup x xs (a.tup x xs h), fun x o xs h => b.fzt x o xs (a.fzt x o xs h), fun x u f h => b.obj x u (a.inn x f) (a.obj x u f h)⟩

/-- the items of a list or a tuple; what is walked is given away -/
def itemsOf : D → Option (List D)
  | .list ds => some ds
  | .tuple ds => some ds
  | _ => none
def dItems (fa : DE) : DI := fun ρ => (fa ρ).bind fun x => (x.1.give x.2).bind fun y => (itemsOf y.1).map fun ds => (ds, y.2)
/-- known to be a tuple (a list) -/
def dItemsT (fa : DE) : DI := fun ρ => (fa ρ).bind fun x => (x.1.give x.2).bind fun y => match y.1 with
  | .tuple ds => some (ds, y.2)
  | _ => none
def dItemsL (fa : DE) : DI := fun ρ => (fa ρ).bind fun x => (x.1.give x.2).bind fun y => match y.1 with
  | .list ds => some (ds, y.2)
  | _ => none
section
variable {K : PySem.W.Frag} {F : Rg} {H : Hp} {a : Addr} {xs : List V} {ds : List D}
theorem itOk_list (hf : F a) (hr : Rd H a (.lst xs)) (hd : Dts K F H ds xs) : ItOk K F H (Itl K a) ds := by
  refine ⟨fun H2 => SqL K H2 a xs, YAt xs, by rw [hd.length]; exact walk_list, fun F2 H2 k => .inl (k.obj a _ hf hr), fun i d F2 H2 x H3 e k y => ?_⟩
  obtain ⟨rfl, ex⟩ := y
  obtain ⟨v, ev, h⟩ := hd.get e
  rw [ex] at ev
  cases ev
  exact .val (h.keeps k)
theorem itOk_tup (hr : SqT K H a xs) (hd : Dts K F H ds xs) : ItOk K F H (Itt K a) ds := by
  refine ⟨fun H2 => SqT K H2 a xs, YAt xs, by rw [hd.length]; exact walk_tup, fun F2 H2 k => k.sqt hr, fun i d F2 H2 x H3 e k y => ?_⟩
  obtain ⟨rfl, ex⟩ := y
  obtain ⟨v, ev, h⟩ := hd.get e
  rw [ex] at ev
  cases ev
  exact .val (h.keeps k)
/-- lo, lo + 1, .. : n of them -/
def rgD (lo : Int) (n : Nat) : List D := (List.range n).map fun (i : Nat) => PyData.int (lo + (i : Int))
theorem rgD_get {lo : Int} {n i : Nat} {d : D} (h : (rgD lo n)[i]? = some d) : d = .int (lo + (i : Int)) := by
  unfold rgD at h
  rw [List.getElem?_map] at h
  obtain ⟨j, h1, h2⟩ := Option.map_eq_some_iff.mp h
  have := List.getElem?_eq_some_iff.mp h1
  obtain ⟨hl, e⟩ := this
  rw [List.getElem_range] at e
  subst e
  exact h2.symm
theorem itOk_range {lo : Int} {n : Nat} : ItOk K F H (Itr lo n) (rgD lo n) := by
  refine ⟨fun _ => True, _, by unfold rgD; rw [List.length_map, List.length_range]; exact walk_range, fun _ _ _ => trivial, fun i d F2 H2 x H3 e k y => ?_⟩
  obtain ⟨rfl, rfl⟩ := y
  rw [rgD_get e]
  exact .val (.int _)
end
def okRg (j : Int) : Prop := -4611686018427387904 ≤ j ∧ j < 4611686018427387904
open Classical in
noncomputable def dRg1 (fa : DE) : DI := fun ρ => (fa ρ).bind fun x => match x.1 with
  | .sh (.int j) => if okRg j then some (rgD 0 j.toNat, x.2) else none
  | _ => none
open Classical in
noncomputable def dRg2 (fa fb : DE) : DI := fun ρ => (fa ρ).bind fun x => (fb x.2).bind fun y => match x.1, y.1 with
  | .sh (.int i), .sh (.int j) => if okRg i ∧ okRg j then some (rgD i (j - i).toNat, y.2) else none
  | _, _ => none
section
variable {X : Cx} {tg a b : Expr} {p pos : Pos} {fa fb : DE}
theorem pid_list (ha : PED X a fa) : PID X tg a (dItemsL fa) := fun g hg => (pi_list (ha g hg)).wk fun σ H Q t => by
  obtain ⟨F, ρ, r, ds, ρ', e, q⟩ := t
  obtain ⟨⟨x, ρ1⟩, e1, e⟩ := Option.bind_eq_some_iff.mp e
  obtain ⟨⟨d, ρ2⟩, e2, e⟩ := Option.bind_eq_some_iff.mp e
  refine ⟨F, ρ, r, x, ρ1, e1, fun v H1 F1 p1 => ?_⟩
  obtain ⟨F2, p2, h⟩ := p1.give e2
  simp only at e
  split at e
  · cases e
    cases h with
    | lst f rr dd => exact ⟨_, rfl, ⟨_, .inl rr⟩, by rw [← hg]; exact q _ H1 F2 p2 (itOk_list f rr dd)⟩
  · cases e
theorem pid_tup (ha : PED X a fa) : PID X tg a (dItemsT fa) := fun g hg => (pi_tup (ha g hg)).wk fun σ H Q t => by
  obtain ⟨F, ρ, r, ds, ρ', e, q⟩ := t
  obtain ⟨⟨x, ρ1⟩, e1, e⟩ := Option.bind_eq_some_iff.mp e
  obtain ⟨⟨d, ρ2⟩, e2, e⟩ := Option.bind_eq_some_iff.mp e
  refine ⟨F, ρ, r, x, ρ1, e1, fun v H1 F1 p1 => ?_⟩
  obtain ⟨F2, p2, h⟩ := p1.give e2
  simp only at e
  split at e
  · cases e
    cases h with
    | tup rr dd => exact ⟨_, rfl, ⟨_, hg ▸ rr⟩, by rw [← hg]; exact q _ H1 F2 p2 (itOk_tup rr dd)⟩
  · cases e
theorem pid_range1 (hG : Gl X "range") (hm : X.mg "range" = none) (ha : PED X a fa) (h1 : starEach [a] X.env = (false, eval a X.env) :: starEach [] X.env := by rfl) (hs : starEach [a] X.env = [(false, eval a X.env)] := by rfl) : PID X tg (.Call (.Name "range" p) [a] [] pos) (dRg1 fa) := fun g hg => (pi_range1 hG hm (pa_cons (ha g hg) pa_nil h1) hs).wk fun σ H Q t => by
  obtain ⟨F, ρ, r, ds, ρ', e, q⟩ := t
  obtain ⟨⟨x, ρ1⟩, e1, e⟩ := Option.bind_eq_some_iff.mp e
  refine ⟨F, ρ, r, x, ρ1, e1, fun v H1 F1 p1 => ?_⟩
  simp only at e
  split at e
  · split at e
    · rename_i hz
      cases e
      cases sh_inv p1.rw
      unfold okRg at hz
      exact ⟨_, rfl, by omega, by omega, q _ H1 F1 p1.t itOk_range⟩
    · cases e
  · cases e
theorem pid_range2 (hG : Gl X "range") (hm : X.mg "range" = none) (ha : PED X a fa) (hb : PED X b fb) (h1 : starEach [a, b] X.env = (false, eval a X.env) :: starEach [b] X.env := by rfl) (h2 : starEach [b] X.env = (false, eval b X.env) :: starEach [] X.env := by rfl)
    (hs : starEach [a, b] X.env = [(false, eval a X.env), (false, eval b X.env)] := by rfl) (hs2 : starEach [b] X.env = [(false, eval b X.env)] := by rfl) : PID X tg (.Call (.Name "range" p) [a, b] [] pos) (dRg2 fa fb) := fun g hg => (pi_range2 hG hm (pa_cons (ha g hg) (pa_cons (hb g hg) pa_nil h2) h1) hs hs2).wk fun σ H Q t => by
  obtain ⟨F, ρ, r, ds, ρ', e, q⟩ := t
  obtain ⟨⟨x, ρ1⟩, e1, e⟩ := Option.bind_eq_some_iff.mp e
  obtain ⟨⟨y, ρ2⟩, e2, e⟩ := Option.bind_eq_some_iff.mp e
  refine ⟨F, ρ, r, x, ρ1, e1, fun v H1 F1 p1 => ⟨F1, ρ1, p1.t.post.rel, y, ρ2, e2, fun u H2 F2 p2 => ?_⟩⟩
  simp only at e
  split at e
  · split at e
    · rename_i hz
      cases e
      cases sh_inv p1.rw
      cases sh_inv p2.rw
      unfold okRg at hz
      exact ⟨_, _, rfl, ⟨by omega, by omega, by omega, by omega⟩, q _ H2 F2 (p1.t.trans r p2.t) itOk_range⟩
    · cases e
  · cases e
end

/-! ### slots forgotten -/
def wipeS (sl : List (Option Sl)) : List Nat → List (Option Sl)
  | [] => sl
  | v :: vs => (wipeS sl vs).set v none
def En.wipe (ρ : En) (vs : List Nat) : Option En := if ρ.cup = true ∧ 0 ∈ vs then none else some { ρ with sl := wipeS ρ.sl vs }
section
variable {g : G} {F F1 F2 F' : Rg} {ρ ρ1 ρ2 ρ' : En} {σ σ1 σ' : St} {H H1 H2 H' : Hp} {vs : List Nat}
theorem wipeS_length (sl : List (Option Sl)) : ∀ vs : List Nat, (wipeS sl vs).length = sl.length
  | [] => rfl
  | v :: vs => by unfold wipeS; rw [List.length_set, wipeS_length sl vs]
theorem wipeS_some {sl : List (Option Sl)} {i : Nat} {s : Sl} : ∀ {vs : List Nat}, (wipeS sl vs)[i]? = some (some s) → sl[i]? = some (some s) ∧ i ∉ vs
  | [], h => ⟨h, by simp⟩
  | v :: vs, h => by
    rcases set_at (sl := wipeS sl vs) h with ⟨_, q, _⟩ | ⟨ne, h⟩
    · cases q
    · obtain ⟨h1, h2⟩ := wipeS_some h
      exact ⟨h1, by simp only [List.mem_cons, not_or]; exact ⟨fun e => ne e.symm, h2⟩⟩
theorem wipeS_out {sl : List (Option Sl)} {i : Nat} : ∀ {vs : List Nat}, i ∉ vs → (wipeS sl vs)[i]? = sl[i]?
  | [], _ => rfl
  | v :: vs, h => by
    unfold wipeS
    rw [List.getElem?_set_ne (fun e => h (by rw [e]; exact List.mem_cons_self)), wipeS_out fun m => h (List.mem_cons_of_mem _ m)]
/-- slots forgotten, in the data alone (or in both) -/
theorem Rel.wiped {σ2 : St} (r : Rel g F ρ σ H) (hl : σ2.length = σ.length) (hσ : ∀ (i : Nat), i ∉ vs → σ2[i]? = σ[i]?) (hc : ¬ (ρ.cup = true ∧ 0 ∈ vs)) : Rel g F { ρ with sl := wipeS ρ.sl vs } σ2 H := by
  refine ⟨by show (wipeS ρ.sl vs).length = _; rw [wipeS_length, hl]; exact r.len, fun i d e => ?_, fun i d e => ?_, fun i j d e a h1 h2 h3 h4 => ?_, fun h => ?_, r.cupF, r.F0, r.Fn, r.Fs, r.base⟩
  · obtain ⟨e1, n⟩ := wipeS_some e
    rw [hσ i n]
    exact r.sh i d e1
  · obtain ⟨e1, n⟩ := wipeS_some e
    rw [hσ i n]
    exact r.own i d e1
  · obtain ⟨k1, n1⟩ := wipeS_some h1
    obtain ⟨k2, n2⟩ := wipeS_some h2
    rw [hσ i n1] at h3
    rw [hσ j n2] at h4
    exact r.dist i j d e a k1 k2 h3 h4
  · obtain ⟨c, d, c1, c2, c3⟩ := r.cupT h
    have n0 : 0 ∉ vs := fun z => hc ⟨h, z⟩
    exact ⟨c, d, c1, by rw [hσ 0 n0]; exact c2, by show (wipeS ρ.sl vs)[0]? = _; rw [wipeS_out n0]; exact c3⟩
theorem ownAt_wiped {σ2 : St} (hσ : ∀ (i : Nat), i ∉ vs → σ2[i]? = σ[i]?) {b : Addr} (h : OwnAt { ρ with sl := wipeS ρ.sl vs } σ2 b) : OwnAt ρ σ b := by
  obtain ⟨i, d, e1, e2⟩ := h
  obtain ⟨k, n⟩ := wipeS_some e1
  rw [hσ i n] at e2
  exact ⟨i, d, k, e2⟩
theorem En.wipe_some (e : ρ.wipe vs = some ρ') : ¬ (ρ.cup = true ∧ 0 ∈ vs) ∧ ρ' = { ρ with sl := wipeS ρ.sl vs } := by
  unfold En.wipe at e
  split at e
  · cases e
  · rename_i h
    cases e
    exact ⟨h, rfl⟩
theorem Post.wipe (p : Post g F ρ σ H F1 ρ1 σ1 H1) (e : ρ1.wipe vs = some ρ2) : Post g F ρ σ H F1 ρ2 σ1 H1 := by
  obtain ⟨hc, rfl⟩ := En.wipe_some e
  exact ⟨p.rel.wiped rfl (fun _ _ => rfl) hc, p.mono, p.kept, p.there, p.newF, fun b h => p.newO b (ownAt_wiped (fun _ _ => rfl) h)⟩
end

/-! ### for -/
def forGo (tg : DG) (body : DS) (vs : List Nat) : List D → En → Option Fl
  | [], ρ => some (.nx ρ)
  | d :: ds, ρ => (tg d ρ).bind fun ρ1 => (body ρ1).bind fun fl => match fl with
    | .nx ρ2 => (ρ2.wipe vs).bind fun ρ3 => forGo tg body vs ds ρ3
    | .ct ρ2 => (ρ2.wipe vs).bind fun ρ3 => forGo tg body vs ds ρ3
    | .bk ρ2 => some (.nx ρ2)
    | .rt w ρ2 => some (.rt w ρ2)
/-- vs: slots that are forgotten behind each turn -/
def dFor (fi : DI) (tg : DG) (body : DS) (vs : List Nat) : DS := fun ρ => (fi ρ).bind fun x => forGo tg body vs x.1 x.2
section
variable {X : Cx} {pos : Pos} {tg iter : Expr} {body : List Stmt} {fi : DI} {ft : DG} {fb : DS} {is vs : List Nat}
theorem NewR.tpo {g : G} {F : Rg} {ρ : En} {σ : St} {H H' : Hp} {v : V} {d : D} (r : Rel g F ρ σ H) (n : NewR g.K F H v H' (.sh d)) : TPo g F ρ σ H F ρ H' ∧ Dt g.K F H' d v := ⟨(n.epo r).t, sh_inv (n.epo r).rw⟩
theorem for_ok {g : G} {is : List Nat} {E : Ends} {σ : St} {H : Hp} (t : tS g (dFor fi ft fb vs) E σ H) : tFor (tI g fi) (tG g ft is) (tS g fb) E σ H := by
  obtain ⟨F, ρ, r, fl, e, q⟩ := t
  obtain ⟨⟨ds, ρ1⟩, e1, e⟩ := Option.bind_eq_some_iff.mp e
  refine ⟨F, ρ, r, ds, ρ1, e1, fun J H1 F1 p1 ok => ?_⟩
  have hlen := ds.length
  have q1 := q.from r p1.post
  have r1 := p1.post.rel
  obtain ⟨Gd, Y, wk, hG, hY⟩ := ok
  refine ⟨fun i m σ2 H2 => m + i = ds.length ∧ ∃ F2 ρ2, Post g F1 ρ1 σ H1 F2 ρ2 σ2 H2 ∧ forGo ft fb vs (ds.drop i) ρ2 = some fl, ⟨ds.length, by omega, F1, ρ1, Post.refl r1, by rw [List.drop_zero]; exact e⟩, ?_⟩
  rintro i m σ2 H2 ⟨hm, F2, ρ2, p2, e2⟩
  have r2 := p2.rel
  have gd := hG F2 H2 (p2.keeps r1)
  by_cases hi' : i < ds.length
  · refine .inr ⟨wk.goes i H2 hi' gd, fun σ3 H3 => ∃ F3 ρ3, Post g F1 ρ1 σ H1 F3 ρ3 σ3 H3 ∧ forGo ft fb vs (ds.drop (i + 1)) ρ3 = some fl, fun σ3 H3 ⟨F3, ρ3, z1, z2⟩ => ⟨m - 1, by omega, by omega, F3, ρ3, z1, z2⟩, fun x H3 y => ?_⟩
    have ed : ds.drop i = ds[i] :: ds.drop (i + 1) := List.drop_eq_getElem_cons hi'
    rw [ed] at e2
    obtain ⟨ρ3, e3, e2⟩ := Option.bind_eq_some_iff.mp e2
    obtain ⟨fl1, e4, e2⟩ := Option.bind_eq_some_iff.mp e2
    obtain ⟨tn, dn⟩ := (hY i ds[i] F2 H2 x H3 (List.getElem?_eq_getElem hi') (p2.keeps r1) (wk.yields i H2 x H3 hi' gd y)).tpo r2
    refine ⟨F2, ρ2, ds[i], tn.post.rel, dn, ρ3, e3, fun σ4 r4 o4 _ _ => ⟨F2, ρ3, r4, fl1, e4, ?_⟩⟩
    have p3 : Post g F1 ρ1 σ H1 F2 ρ2 σ2 H3 := p2.trans r1 tn.post
    have p4 : Post g F1 ρ1 σ H1 F2 ρ3 σ4 H3 := ⟨r4, p3.mono, p3.kept, p3.there, p3.newF, fun b h => p3.newO b (o4 b h)⟩
    cases fl1 with
    | nx ρ5 =>
      intro σ5 H5 F5 p5
      obtain ⟨ρ6, e6, e2⟩ := Option.bind_eq_some_iff.mp e2
      exact ⟨F5, ρ6, (p4.trans r1 p5).wipe e6, e2⟩
    | ct ρ5 =>
      intro σ5 H5 F5 p5
      obtain ⟨ρ6, e6, e2⟩ := Option.bind_eq_some_iff.mp e2
      exact ⟨F5, ρ6, (p4.trans r1 p5).wipe e6, e2⟩
    | bk ρ5 =>
      cases e2
      exact fun σ5 H5 F5 p5 => q1 σ5 H5 F5 (p4.trans r1 p5)
    | rt w ρ5 =>
      cases e2
      exact fun v σ5 H5 F5 p5 => q1 v σ5 H5 F5 (p4.trans r1 p5)
  · have hie : i = ds.length := by omega
    subst hie
    rw [List.drop_length] at e2
    cases e2
    exact .inl ⟨wk.stops H2 gd, q1 σ2 H2 F2 p2⟩
theorem psd_for (hp : PassesOwn (model X.prog X.w) X.A X.env X.xe) (hc : X.calm = true) (hi : PID X tg iter fi) (hg' : PGD X tg ft is) (hb : PSsD X body fb) (vs : List Nat)
    (hs : ∀ x, foldedSetIterable iter X.env x = pure x := by intro _; rfl) : PSD X (.For tg iter body [] pos) (dFor fi ft fb vs) := fun g hg => (ps_for hp hc (hi g hg) (hg' g hg) (hb g hg) hs).wk fun E σ H t => for_ok t
end

/-! ### while -/
def whileGo (ft : DT) (body : DS) (vs : List Nat) : Nat → En → Option Fl
  | 0, _ => none
  | n + 1, ρ => (ft ρ).bind fun x => if x.1 = true then (body x.2).bind fun fl => match fl with
      | .nx ρ2 => (ρ2.wipe vs).bind fun ρ3 => whileGo ft body vs n ρ3
      | .ct ρ2 => (ρ2.wipe vs).bind fun ρ3 => whileGo ft body vs n ρ3
      | .bk ρ2 => some (.nx ρ2)
      | .rt w ρ2 => some (.rt w ρ2)
    else some (.nx x.2)
open Classical in
noncomputable def dWhile (ft : DT) (body : DS) (vs : List Nat) : DS := fun ρ => if h : ∃ (n : Nat) (fl : Fl), whileGo ft body vs n ρ = some fl then some (choose (choose_spec h)) else none
theorem whileGo_mono {ft : DT} {body : DS} {vs : List Nat} : ∀ {n : Nat} {ρ : En} {fl : Fl}, whileGo ft body vs n ρ = some fl → ∀ m, n ≤ m → whileGo ft body vs m ρ = some fl
  | 0, _, _, h, _, _ => by cases h
  | n + 1, ρ, fl, h, 0, hm => by omega
  | n + 1, ρ, fl, h, m + 1, hm => by
    obtain ⟨x, e1, e⟩ := Option.bind_eq_some_iff.mp h
    refine Option.bind_eq_some_iff.mpr ⟨x, e1, ?_⟩
    split at e
    · rename_i hx
      rw [if_pos hx]
      obtain ⟨fl1, e2, e⟩ := Option.bind_eq_some_iff.mp e
      refine Option.bind_eq_some_iff.mpr ⟨fl1, e2, ?_⟩
      cases fl1 with
      | nx ρ2 =>
        obtain ⟨ρ3, e3, e⟩ := Option.bind_eq_some_iff.mp e
        exact Option.bind_eq_some_iff.mpr ⟨ρ3, e3, whileGo_mono e m (by omega)⟩
      | ct ρ2 =>
        obtain ⟨ρ3, e3, e⟩ := Option.bind_eq_some_iff.mp e
        exact Option.bind_eq_some_iff.mpr ⟨ρ3, e3, whileGo_mono e m (by omega)⟩
      | bk ρ2 => exact e
      | rt w ρ2 => exact e
    · rename_i hx
      rw [if_neg hx]
      exact e
theorem dWhile_of {ft : DT} {body : DS} {vs : List Nat} {n : Nat} {ρ : En} {fl : Fl} (h : whileGo ft body vs n ρ = some fl) : dWhile ft body vs ρ = some fl := by
  have hx : ∃ (n : Nat) (fl : Fl), whileGo ft body vs n ρ = some fl := ⟨n, fl, h⟩
  unfold dWhile
  rw [dif_pos hx]
  have h2 := Classical.choose_spec (Classical.choose_spec hx)
  have a := whileGo_mono h (max n (Classical.choose hx)) (Nat.le_max_left _ _)
  have b := whileGo_mono h2 (max n (Classical.choose hx)) (Nat.le_max_right _ _)
  exact b.symm.trans a
theorem dWhile_inv {ft : DT} {body : DS} {vs : List Nat} {ρ : En} {fl : Fl} (h : dWhile ft body vs ρ = some fl) : ∃ n, whileGo ft body vs n ρ = some fl := by
  unfold dWhile at h
  split at h
  · rename_i hx
    cases h
    exact ⟨_, Classical.choose_spec (Classical.choose_spec hx)⟩
  · cases h
section
variable {X : Cx} {pos : Pos} {c : Expr} {body : List Stmt} {ft : DT} {fb : DS}
theorem psd_while (hp : PassesOwn (model X.prog X.w) X.A X.env X.xe) (hc : PTD X c ft) (hb : PSsD X body fb) (vs : List Nat) : PSD X (.While c body [] pos) (dWhile ft fb vs) := fun g hg => (ps_while hp (hc g hg) (hb g hg)).wk fun E σ H t => by
  obtain ⟨F, ρ, r, fl, e, q⟩ := t
  obtain ⟨n, e⟩ := dWhile_inv e
  refine ⟨fun m σ2 H2 => ∃ F2 ρ2, Post g F ρ σ H F2 ρ2 σ2 H2 ∧ whileGo ft fb vs m ρ2 = some fl, ⟨n, F, ρ, Post.refl r, e⟩, ?_⟩
  rintro m σ2 H2 ⟨F2, ρ2, p2, e2⟩
  cases m with
  | zero => cases e2
  | succ m =>
    obtain ⟨⟨b, ρ3⟩, e3, e2⟩ := Option.bind_eq_some_iff.mp e2
    refine ⟨F2, ρ2, p2.rel, b, ρ3, e3, fun H3 F3 p3 => ?_⟩
    have p := p2.trans r p3.post
    cases b with
    | false =>
      rw [if_neg (show ¬ (false = true) from Bool.false_ne_true)] at e2
      cases e2
      show (if false = true then _ else _)
      rw [if_neg (show ¬ (false = true) from Bool.false_ne_true)]
      exact q σ2 H3 F3 p
    | true =>
      rw [if_pos rfl] at e2
      show (if true = true then _ else _)
      rw [if_pos rfl]
      obtain ⟨fl1, e4, e2⟩ := Option.bind_eq_some_iff.mp e2
      refine ⟨fun σ5 H5 => ∃ F5 ρ5, Post g F ρ σ H F5 ρ5 σ5 H5 ∧ whileGo ft fb vs m ρ5 = some fl, fun σ5 H5 z => ⟨m, by omega, z⟩, F3, ρ3, p3.post.rel, fl1, e4, ?_⟩
      cases fl1 with
      | nx ρ5 =>
        intro σ5 H5 F5 p5
        obtain ⟨ρ6, e6, e2⟩ := Option.bind_eq_some_iff.mp e2
        exact ⟨F5, ρ6, (p.trans r p5).wipe e6, e2⟩
      | ct ρ5 =>
        intro σ5 H5 F5 p5
        obtain ⟨ρ6, e6, e2⟩ := Option.bind_eq_some_iff.mp e2
        exact ⟨F5, ρ6, (p.trans r p5).wipe e6, e2⟩
      | bk ρ5 =>
        cases e2
        exact fun σ5 H5 F5 p5 => q σ5 H5 F5 (p.trans r p5)
      | rt w ρ5 =>
        cases e2
        exact fun v σ5 H5 F5 p5 => q v σ5 H5 F5 (p.trans r p5)
end
end PD
set_option Elab.async false
set_option linter.all false
set_option maxRecDepth 100000
set_option maxHeartbeats 4000000
/-! PD8: lists or tuples walked, zip, enumerate. -/
namespace PD
set_option autoImplicit false
open PySem PySem.Spec L2
open PyProof.Rows hiding St

section
variable {X : Cx} {tg a b : Expr} {p pos : Pos} {fa fb : DE}
/-- a list or a tuple, walked -/
theorem pid_seq (ha : PED X a fa) : PID X tg a (dItems fa) := fun g hg => ⟨fun pins s σ H R I t => by
  obtain ⟨F, ρ, r, ds, ρ', e, q⟩ := t
  obtain ⟨⟨x, ρ1⟩, e1, e⟩ := Option.bind_eq_some_iff.mp e
  obtain ⟨⟨d, ρ2⟩, e2, e⟩ := Option.bind_eq_some_iff.mp e
  have hc := (ha g hg).run pins s σ H (fun v H1 => ∃ F2, TPo g F ρ σ H F2 ρ2 H1 ∧ Dt g.K F2 H1 d v) I ⟨F, ρ, r, x, ρ1, e1, fun v H1 F1 p1 => p1.give e2⟩
  refine thn hc fun v s1 ⟨u, H1, I1, ru, F2, p2, h⟩ => ?_
  cases h with
  | lst f rr dd =>
    cases e
    cases ru
    obtain ⟨its, rv, pl, hz⟩ := I1.list (.inl rr)
    refine wpAny_pyIter_list pl.isList ?_
    refine ⟨s1.heap.objs.size, [s1.heap.objs.size], _, _, H1, rfl, I1.kept (t' := s1.toks) fun b o z => Heap.get?_push_of_some _ z, turn_list _ _, ⟨_, Heap.get?_push_size _ rfl, rfl, rfl⟩, fun b hb => ?_, ?_⟩
    · cases List.mem_singleton.mp hb
      exact I1.fpOk (Nat.le_refl _) I1.fresh
    · rw [← hg]
      exact q _ H1 F2 p2 (itOk_list f rr dd)
  | tup rr dd =>
    cases e
    cases ru
    obtain ⟨its, rv, pl, hz⟩ := I1.tuple (hg ▸ rr)
    refine wpAny_pyIter_tuple (show s1.heap.IsTuple _ its.toArray from pl) ?_
    refine ⟨s1.heap.objs.size, [s1.heap.objs.size], _, _, H1, rfl, I1.kept (t' := s1.toks) fun b o z => Heap.get?_push_of_some _ z, turn_tuple _ _, ⟨_, Heap.get?_push_size _ rfl, rfl, rfl⟩, fun b hb => ?_, ?_⟩
    · cases List.mem_singleton.mp hb
      exact I1.fpOk (Nat.le_refl _) I1.fresh
    · rw [← hg]
      exact q _ H1 F2 p2 (itOk_tup rr dd)
  | non => cases e
  | bl _ => cases e
  | int _ => cases e
  | str _ => cases e
  | dik _ _ _ => cases e
  | dit _ _ _ => cases e⟩
end

/-! ### zip -/
def zipD (xs ys : List D) : List D := List.zipWith (fun x y => PyData.tuple [x, y]) xs ys
def dZip (fs : DA) : DI := fun ρ => (fs ρ).bind fun x => (gives x.1 x.2).bind fun y => match y.1 with
  | [.list xs, .list ys] => some (zipD xs ys, y.2)
  | [.tuple xs, .tuple ys] => some (zipD xs ys, y.2)
  | _ => none
section
variable {K : PySem.W.Frag} {F : Rg} {H : Hp} {a b : Addr} {xs ys : List V} {ds es : List D}
theorem pair_new {F2 : Rg} {H2 H3 : Hp} {v x y : V} {T : Addr} {d e : D} (k : Keeps F F2 H H2) (h1 : v = .ref T) (h2 : H2 T = none) (h3 : H3 = upd H2 T (.tup [x, y])) (hd : Dt K F2 H2 d x) (he : Dt K F2 H2 e y) : NewR K F2 H2 v H3 (.sh (.tuple [d, e])) := by
  subst h1 h3
  exact .tup h2 (.cons hd (.cons he .nil))
theorem zip_get {i : Nat} {d : D} (h : (zipD ds es)[i]? = some d) : ∃ x y, ds[i]? = some x ∧ es[i]? = some y ∧ d = .tuple [x, y] := by
  unfold zipD at h
  rw [List.getElem?_zipWith] at h
  cases q1 : ds[i]? with
  | none => rw [q1] at h; cases h
  | some x =>
    cases q2 : es[i]? with
    | none => rw [q1, q2] at h; cases h
    | some y =>
      rw [q1, q2] at h
      cases h
      exact ⟨x, y, rfl, rfl, rfl⟩
theorem itOk_zipL (ha : F a) (ra : Rd H a (.lst xs)) (hd : Dts K F H ds xs) (hb : F b) (rb : Rd H b (.lst ys)) (he : Dts K F H es ys) : ItOk K F H (Itz K a b) (zipD ds es) := by
  refine ⟨fun H2 => SqL K H2 a xs ∧ SqL K H2 b ys, _, walk_zip (by unfold zipD; rw [List.length_zipWith, hd.length, he.length]), fun F2 H2 k => ⟨.inl (k.obj a _ ha ra), .inl (k.obj b _ hb rb)⟩, fun i d F2 H2 x H3 e k y => ?_⟩
  obtain ⟨T, u, v, h1, h2, h3, h4, h5⟩ := y
  obtain ⟨d1, d2, g1, g2, rfl⟩ := zip_get e
  obtain ⟨u', e1, t1⟩ := hd.get g1
  obtain ⟨v', e2, t2⟩ := he.get g2
  cases h4.symm.trans e1
  cases h5.symm.trans e2
  exact pair_new k h1 h2 h3 (t1.keeps k) (t2.keeps k)
theorem walk_zipT {n : Nat} (hn : n = min xs.length ys.length) : Walk (RZ.ItzT K a b) n (fun H => SqT K H a xs ∧ SqT K H b ys) (YPair (fun i => xs[i]?) (fun i => ys[i]?)) := by
  subst hn
  refine ⟨fun i _ hi q => ?_, fun _ q => ⟨xs, ys, q.1, q.2, by omega⟩, fun i H v H' _ q y => ?_⟩
  · exact ⟨xs, ys, xs[i]'(by omega), ys[i]'(by omega), q.1, q.2, List.getElem?_eq_getElem _, List.getElem?_eq_getElem _⟩
  · obtain ⟨T, x, z, h1, h2, h3, h4, h5⟩ := y
    exact ⟨T, x, z, h1, h2, h3, h4 xs q.1, h5 ys q.2⟩
theorem itOk_zipT (ra : SqT K H a xs) (hd : Dts K F H ds xs) (rb : SqT K H b ys) (he : Dts K F H es ys) : ItOk K F H (RZ.ItzT K a b) (zipD ds es) := by
  refine ⟨fun H2 => SqT K H2 a xs ∧ SqT K H2 b ys, _, walk_zipT (by unfold zipD; rw [List.length_zipWith, hd.length, he.length]), fun F2 H2 k => ⟨k.sqt ra, k.sqt rb⟩, fun i d F2 H2 x H3 e k y => ?_⟩
  obtain ⟨T, u, v, h1, h2, h3, h4, h5⟩ := y
  obtain ⟨d1, d2, g1, g2, rfl⟩ := zip_get e
  obtain ⟨u', e1, t1⟩ := hd.get g1
  obtain ⟨v', e2, t2⟩ := he.get g2
  cases h4.symm.trans e1
  cases h5.symm.trans e2
  exact pair_new k h1 h2 h3 (t1.keeps k) (t2.keeps k)
end
section
variable {X : Cx} {a b : Expr} {p pos tpos : Pos} {fs : DA} {elts : List Expr} {kk : Nat}
theorem pid_zip (hG : Gl X "zip") (hm : X.mg "zip" = none) (ha : PAD X [a, b] fs) (hs : starEach [a, b] X.env = (false, eval a X.env) :: starEach [b] X.env := by rfl) (hpl : (backTo pos (starEach [b] X.env)).any (·.1) = false := by rfl) :
    PID X (.Tuple elts kk tpos) (.Call (.Name "zip" p) [a, b] [] pos) (dZip fs) := fun g hg => (RZ.pi_zipA hG hm (ha g hg) hs hpl).wk fun σ H R t => by
  obtain ⟨F, ρ, r, ds, ρ', e, q⟩ := t
  obtain ⟨⟨ws, ρ1⟩, e1, e⟩ := Option.bind_eq_some_iff.mp e
  obtain ⟨⟨us, ρ2⟩, e2, e⟩ := Option.bind_eq_some_iff.mp e
  refine ⟨F, ρ, r, ws, ρ1, e1, fun vs H1 F1 p1 => ?_⟩
  obtain ⟨F2, p2, d⟩ := p1.gives e2
  simp only at e
  split at e
  · cases e
    cases d with
    | cons d1 d =>
      cases d with
      | cons d2 d =>
        cases d
        cases d1 with
        | lst f1 r1 t1 =>
          cases d2 with
          | lst f2 r2 t2 => exact ⟨_, _, _, _, rfl, .inl ⟨.inl r1, .inl r2, by rw [← hg]; exact q _ H1 F2 p2 (itOk_zipL f1 r1 t1 f2 r2 t2)⟩⟩
  · cases e
    cases d with
    | cons d1 d =>
      cases d with
      | cons d2 d =>
        cases d
        cases d1 with
        | tup r1 t1 =>
          cases d2 with
          | tup r2 t2 => exact ⟨_, _, _, _, rfl, .inr ⟨hg ▸ r1, hg ▸ r2, by rw [← hg]; exact q _ H1 F2 p2 (itOk_zipT r1 t1 r2 t2)⟩⟩
  · cases e
end

/-! ### enumerate of a tuple -/
set_option maxHeartbeats 1000000 in
theorem meets_enum_newT {v : Value} {o : Obj} {Hh : Heap → Prop} (B : Begins v o Hh) :
    Meets (Builtin.«enumerate.__new__» ⟨[.type "enumerate", v], []⟩) (fun _ R s => Hh s.heap ∧
      R (.ok (.ret (.ref (s.heap.push o).objs.size))) { s with heap := (s.heap.push o).push { cls := .type "enumerate", data := .fields #[.none, .bool false, .ref s.heap.objs.size, rawInt 0, .none, .none] } }) :=
  .of_wp fun prog w A R s h => by
    obtain ⟨hp, g, d, tk, os⟩ := s
    obtain ⟨h1, h⟩ := h
    have hsub := sub_enumerate
    have q1 : ∀ {A' : Around} {E : Value → Shared → Prop} {Q : Value → Shared → Prop}, Q (.ref hp.objs.size) ⟨hp.push o, g, d, tk, os⟩ → wpAny (model prog w) A' (pyIter v) Q E ⟨hp, g, d, tk, os⟩ :=
      fun q => B.iter prog w _ _ ⟨hp, g, d, tk, os⟩ _ h1 q
    wp_walk using q1
    refine wpAny_stack_any fun st => wpAny_pure ?_
    split
    · rename_i c _ _ _ _ _
      cases (c == Value.type "enumerate")
      all_goals (wp_walk using q1; exact ⟨_, rfl, h⟩)
    · wp_walk using q1
      exact ⟨_, rfl, h⟩
section
variable {prog : Program} {w : World} {A : Around} {E : Value → Shared → Prop} {s : Shared}
theorem enum_starts {v : Value} {o : Obj} {Hh : Heap → Prop} {Q : Value → Shared → Prop} (B : Begins v o Hh) (h1 : Hh s.heap)
    (h : ∀ h', IsEnum h' (s.heap.objs.size + 1) s.heap.objs.size 0 .none → h'.get? s.heap.objs.size = some o → (∀ b u, s.heap.get? b = some u → h'.get? b = some u) → Q (.ref (s.heap.objs.size + 1)) { s with heap := h' }) :
    wpAny (model prog w) A (call (.type "enumerate") [v]) Q E s := by
  refine callType_new F.called_enumerate (by decide) (F.typeCall_enumerate_1 _) (F.newCall_enumerate_1 _) (fun obj => F.args_object_init_2 obj _) F.entry_enumerate_new (meets_enum_newT B) ⟨h1, ?_⟩
  have hz : (s.heap.push o).objs.size = s.heap.objs.size + 1 := by rw [Heap.size_push]
  show _ ∧ _
  rw [hz]
  have he : IsEnum ((s.heap.push o).push { cls := .type "enumerate", data := .fields #[.none, .bool false, .ref s.heap.objs.size, rawInt 0, .none, .none] }) (s.heap.objs.size + 1) s.heap.objs.size 0 .none := by
    have z := Heap.get?_push_size (s.heap.push o) (o := { cls := .type "enumerate", data := .fields #[.none, .bool false, .ref s.heap.objs.size, rawInt 0, .none, .none] }) rfl
    rw [hz] at z
    exact z
  exact ⟨⟨_, he, rfl⟩, h _ he (Heap.get?_push_of_some _ (Heap.get?_push_size _ B.free)) fun b u x => Heap.get?_push_of_some _ (Heap.get?_push_of_some _ x)⟩
end
/-- the tuple at a as it stands at each turn, each item in a new pair -/
def ItEnT (K : PySem.W.Frag) (a : Addr) : It :=
  ⟨fun i H => ∃ (xs : List V) (x : V), SqT K H a xs ∧ xs[i]? = some x, fun i H v H' => ∃ T x, v = .ref T ∧ H T = none ∧ H' = upd H T (.tup [.int (i : Nat), x]) ∧ ∀ xs, SqT K H a xs → xs[i]? = some x, fun i H => ∃ xs : List V, SqT K H a xs ∧ xs.length = i⟩
theorem turn_enT {P : Program} {w : World} {K : PySem.W.Frag} {elts : List Expr} {kk : Nat} {tpos : Pos} (a e it : Addr) :
    Turn P w K (.Tuple elts kk tpos) (ItEnT K a) [e, it] e (fun i h => (∃ old, IsEnum h e it ((0 : Int) + (i : Int)) old) ∧ h.IsTupleIter it a i ∧ e ≠ it ∧ a ≠ e ∧ a ≠ it) where
  mem := by simp
  obj := fun i h st b hb => by
    obtain ⟨⟨old, he⟩, ⟨o, ho, _, hd⟩, _⟩ := st
    have e' : b = e ∨ b = it := by simpa using hb
    rcases e' with z | z
    · subst z; exact ⟨_, he, fun v q => nomatch q⟩
    · subst z; exact ⟨o, ho, fun v q => by rw [hd] at q; cases q⟩
  keep := fun i h h' st k => by
    obtain ⟨⟨old, he⟩, hi, ne⟩ := st
    exact ⟨⟨old, k e (by simp) _ he⟩, hi.at fun o q => k it (by simp) o q, ne⟩
  item := by
    intro X hP hw hK hc i pins s σ H E I hf st hg
    subst hP hw hK
    obtain ⟨⟨old, he⟩, hit, n1, n2, n3⟩ := st
    obtain ⟨xs, x, hq, hx⟩ := hg
    obtain ⟨its, rv, pl, hz⟩ := I.tuple hq
    have hi : i < its.toArray.size := by
      have := (List.getElem?_eq_some_iff.mp hx).1
      rw [List.size_toArray, ← rv.length]
      exact this
    have W := GoesN.enumFrom (prog := X.prog) (w := X.w) (A := X.A) (elts := elts) (x1 := kk) (pos := tpos) 0 (Draws.tuple (A := X.A.in1) (I.ok.hd hc) it a n3 its.toArray) e n1 (by simp only [List.mem_cons, List.not_mem_nil, or_false, not_or]; exact ⟨n1, Ne.symm n2⟩) (by simp)
    have hel : e < s.heap.objs.size := Heap.lt_size he
    have hil : it < s.heap.objs.size := by obtain ⟨_, q, _⟩ := hit; exact Heap.lt_size q
    refine W.goes i s _ _ hi ⟨⟨old, he⟩, hit, pl⟩ fun v h' tk hY hst hk htk => ?_
    obtain ⟨T, t, y, hv, hT, hy, hTT⟩ := hY
    subst hv
    obtain ⟨u, hu, ru⟩ := rv.get hx
    have hyu : y = u := by
      have z : its[i]? = some y := by simpa using hy
      rw [hu] at z
      exact (Option.some.inj z).symm
    subst hyu
    have new : ObjOk X.prog X.w (upd H T (.tup [.int (i : Nat), x])) h' T (.tup [.int (i : Nat), x]) :=
      ⟨by show 2 ≤ sizeLine; decide, [.int (0 + (i : Int)) t, y], .cons ⟨t, by rw [Int.zero_add]⟩ (.cons ru .nil), hTT⟩
    have I1 : Inv X pins σ (upd H T (.tup [.int (i : Nat), x])) { s with heap := h', toks := tk } := I.turnedNew (ch := [e, it]) hk hf hT new
    refine ⟨.ref T, _, I1, rfl, ⟨T, x, rfl, I.hok.fresh hT, rfl, fun ys hys => by rw [I.tuple_inj hys hq]; exact hx⟩, ⟨hst.1, hst.2.1, n1, n2, n3⟩, fun b hb => ?_⟩
    have hb' : b < s.heap.objs.size := by
      have e' : b = e ∨ b = it := by simpa using hb
      rcases e' with z | z
      · subst z; exact hel
      · subst z; exact hil
    rw [upd_ne (Nat.ne_of_lt (Nat.lt_of_lt_of_le hb' hT))]
    exact (hf b hb).1
  done := by
    intro X hP hw hK hc i pins s σ H E I hf st hg
    subst hP hw hK
    obtain ⟨⟨old, he⟩, hit, n1, n2, n3⟩ := st
    obtain ⟨xs, hq, hx⟩ := hg
    obtain ⟨its, rv, pl, hz⟩ := I.tuple hq
    have hi : i = its.toArray.size := by rw [List.size_toArray, ← rv.length, hx]
    have W := GoesN.enumFrom (prog := X.prog) (w := X.w) (A := X.A) (elts := elts) (x1 := kk) (pos := tpos) 0 (Draws.tuple (A := X.A.in1) (I.ok.hd hc) it a n3 its.toArray) e n1 (by simp only [List.mem_cons, List.not_mem_nil, or_false, not_or]; exact ⟨n1, Ne.symm n2⟩) (by simp)
    subst hi
    have hel : e < s.heap.objs.size := Heap.lt_size he
    refine thn (W.stops s (fun s' => Inv X pins σ H s') _ ⟨⟨old, he⟩, hit, pl⟩ fun h' tk hk htk => ?_) fun _ _ z => z
    have nt : ∀ b u, H b = some u → b ∉ [e, it] := fun b u z m => by
      have := (hf b m).1
      rw [z] at this
      cases this
    refine I.step (g' := s.gens) (d' := s.drawn) (ch := [e, it]) (fun b hb => ⟨(hf b hb).2.2.2.1, (hf b hb).2.1, (hf b hb).2.2.2.2.1, (hf b hb).2.2.2.2.2⟩) (fun b o _ _ hc z _ => hk b o hc z) (fun b o _ _ hc z _ => ⟨o.slots, hk b o hc z⟩) (fun _ _ _ _ n => n)
      (fun b o hc z => ⟨o, hk b o hc z⟩) (fun _ _ z => z) (fun _ _ _ z => z) (fun b ps z => ⟨#[], by rw [z]; simp⟩) (fun m hm => ?_) (fun b u z => ?_) I.bare
    · obtain ⟨o, es, ep, ho, rr⟩ := hm
      refine ⟨o, es, ep, hk _ o (fun m => ?_) ho, rr⟩
      exact (hf _ m).2.1 rfl
    · refine (I.hok b u z).stay (fun c v hc q => hk c v ?_ q) (fun _ q => q) fun _ _ q => q
      rcases hc with y | y
      · subst y; exact nt _ u z
      · exact nt c _ y
  self := fun A i s Q E st h => by
    obtain ⟨⟨_, he⟩, _⟩ := st
    exact wpAny_pyIter_enum he h
def enD (xs : List D) : List D := zipD ((List.range xs.length).map fun (i : Nat) => PyData.int (i : Int)) xs
def dEnum (fa : DE) : DI := fun ρ => (fa ρ).bind fun x => (x.1.give x.2).bind fun y => match y.1 with
  | .list xs => some (enD xs, y.2)
  | .tuple xs => some (enD xs, y.2)
  | _ => none
section
variable {K : PySem.W.Frag} {F : Rg} {H : Hp} {a : Addr} {xs : List V} {ds : List D}
theorem enD_get {i : Nat} {d : D} (h : (enD ds)[i]? = some d) : ∃ y, ds[i]? = some y ∧ d = .tuple [.int (i : Int), y] := by
  obtain ⟨x, y, h1, h2, rfl⟩ := zip_get h
  rw [List.getElem?_map] at h1
  obtain ⟨j, h3, h4⟩ := Option.map_eq_some_iff.mp h1
  obtain ⟨hl, e⟩ := List.getElem?_eq_some_iff.mp h3
  rw [List.getElem_range] at e
  subst e h4
  exact ⟨y, h2, rfl⟩
theorem enD_length : (enD ds).length = ds.length := by
  unfold enD zipD
  rw [List.length_zipWith, List.length_map, List.length_range, Nat.min_self]
theorem itOk_enT (ra : SqT K H a xs) (hd : Dts K F H ds xs) : ItOk K F H (ItEnT K a) (enD ds) := by
  refine ⟨fun H2 => SqT K H2 a xs, YPair (fun i => some (.int (i : Nat))) (fun i => xs[i]?), ⟨fun i _ hi q => ?_, fun _ q => ⟨xs, q, by rw [enD_length, hd.length]⟩, fun i H v H' _ q y => ?_⟩, fun F2 H2 k => k.sqt ra, fun i d F2 H2 x H3 e k y => ?_⟩
  · rw [enD_length, hd.length] at hi
    exact ⟨xs, xs[i], q, List.getElem?_eq_getElem _⟩
  · obtain ⟨T, x, h1, h2, h3, h4⟩ := y
    exact ⟨T, _, x, h1, h2, h3, rfl, h4 xs q⟩
  · obtain ⟨T, u, v, h1, h2, h3, h4, h5⟩ := y
    obtain ⟨z, g2, rfl⟩ := enD_get e
    obtain ⟨v', e2, t2⟩ := hd.get g2
    cases h5.symm.trans e2
    cases h4
    exact pair_new k h1 h2 h3 (.int _) (t2.keeps k)
theorem itOk_enL (hf : F a) (ra : Rd H a (.lst xs)) (hd : Dts K F H ds xs) : ItOk K F H (Ite K a) (enD ds) := by
  refine ⟨fun H2 => SqL K H2 a xs, _, by rw [enD_length, hd.length]; exact walk_enum, fun F2 H2 k => .inl (k.obj a _ hf ra), fun i d F2 H2 x H3 e k y => ?_⟩
  obtain ⟨T, u, v, h1, h2, h3, h4, h5⟩ := y
  obtain ⟨z, g2, rfl⟩ := enD_get e
  obtain ⟨v', e2, t2⟩ := hd.get g2
  cases h5.symm.trans e2
  cases h4
  exact pair_new k h1 h2 h3 (.int _) (t2.keeps k)
end
section
variable {X : Cx} {a : Expr} {p pos tpos : Pos} {fa : DE} {elts : List Expr} {kk : Nat}
theorem pid_enum (hG : Gl X "enumerate") (hm : X.mg "enumerate" = none) (ha : PED X a fa) (hs : starEach [a] X.env = [(false, eval a X.env)] := by rfl) (h1 : starEach [a] X.env = (false, eval a X.env) :: starEach [] X.env := by rfl) :
    PID X (.Tuple elts kk tpos) (.Call (.Name "enumerate" p) [a] [] pos) (dEnum fa) := fun g hg => ⟨fun pins s σ H R I t => by
  obtain ⟨F, ρ, r, ds, ρ', e, q⟩ := t
  obtain ⟨⟨x, ρ1⟩, e1, e⟩ := Option.bind_eq_some_iff.mp e
  obtain ⟨⟨d, ρ2⟩, e2, e⟩ := Option.bind_eq_some_iff.mp e
  have hA : PA X [a] (fun σ' H' Q => σ' = σ ∧ H' = H ∧ ∀ v H1, (∃ F2, TPo g F ρ σ H F2 ρ2 H1 ∧ Dt g.K F2 H1 d v) → Q [v] H1) := (pa_cons (ha g hg) pa_nil h1).wk fun σ' H' Q z => by
    obtain ⟨rfl, rfl, z⟩ := z
    exact ⟨F, ρ, r, x, ρ1, e1, fun v H1 F1 p1 => z v H1 (p1.give e2)⟩
  refine Call_ (ld_blt I hG hm boot_enumerate (PyProof.Rows.callWith_type1 (thn (hA.run pos pins s σ H (fun vs H1 => ∃ v F2, vs = [v] ∧ TPo g F ρ σ H F2 ρ2 H1 ∧ Dt g.K F2 H1 d v) I ⟨rfl, rfl, fun v H1 ⟨F2, z⟩ => ⟨v, F2, rfl, z⟩⟩) fun us s1 ⟨vs, H1, I1, ru, v, F2, hv, p2, h⟩ => ?_) hs rfl))
  subst hv
  obtain ⟨u, rfl, r2⟩ := vals1 ru
  cases h with
  | lst f rr dd =>
    cases e
    cases r2
    obtain ⟨its, rv, pl, hz⟩ := I1.list (.inl rr)
    refine call_enumerate_list pl.isList fun h' he hit hsz hk => wpAny_pyIter_enum he ?_
    have I2 : Inv X pins σ H1 { s1 with heap := h' } := I1.kept (t' := s1.toks) hk
    refine ⟨s1.heap.objs.size + 1, [s1.heap.objs.size + 1, s1.heap.objs.size], _, _, H1, rfl, I2, turn_enum _ (s1.heap.objs.size + 1) s1.heap.objs.size, ⟨⟨.none, he⟩, hit, Nat.succ_ne_self _⟩, fun b hb => ?_, ?_⟩
    · have hle : s1.heap.objs.size ≤ b := by
        have e' : b = s1.heap.objs.size + 1 ∨ b = s1.heap.objs.size := by simpa using hb
        rcases e' with z | z <;> subst z
        · exact Nat.le_succ _
        · exact Nat.le_refl _
      exact I1.fpOk hle (I1.hok.fresh hle)
    · rw [← hg]
      exact q _ H1 F2 p2 (itOk_enL f rr dd)
  | @tup ad _ _ rr dd =>
    cases e
    cases r2
    obtain ⟨its, rv, pl, hz⟩ := I1.tuple (hg ▸ rr)
    have hlt : ad < s1.heap.objs.size := by obtain ⟨o, ho, _⟩ := pl; exact Heap.lt_size ho
    refine enum_starts (begins_tuple _ its.toArray) pl fun h' he hit hk => wpAny_pyIter_enum he ?_
    have I2 : Inv X pins σ H1 { s1 with heap := h' } := I1.kept (t' := s1.toks) hk
    refine ⟨s1.heap.objs.size + 1, [s1.heap.objs.size + 1, s1.heap.objs.size], _, _, H1, rfl, I2, turn_enT _ (s1.heap.objs.size + 1) s1.heap.objs.size, ⟨⟨.none, he⟩, ⟨_, hit, rfl, rfl⟩, Nat.succ_ne_self _, Nat.ne_of_lt (Nat.lt_succ_of_lt hlt), Nat.ne_of_lt hlt⟩, fun b hb => ?_, ?_⟩
    · have hle : s1.heap.objs.size ≤ b := by
        have e' : b = s1.heap.objs.size + 1 ∨ b = s1.heap.objs.size := by simpa using hb
        rcases e' with z | z <;> subst z
        · exact Nat.le_succ _
        · exact Nat.le_refl _
      exact I1.fpOk hle (I1.hok.fresh hle)
    · rw [← hg]
      exact q _ H1 F2 p2 (itOk_enT rr dd)
  | non => cases e
  | bl _ => cases e
  | int _ => cases e
  | str _ => cases e
  | dik _ _ _ => cases e
  | dit _ _ _ => cases e⟩
end
end PD
set_option Elab.async false
set_option linter.all false
set_option maxRecDepth 100000
set_option maxHeartbeats 4000000
/-! PD9: list comprehensions. -/
namespace PD
set_option autoImplicit false
open PySem PySem.Spec L2
open PyProof.Rows hiding St

def restoreS (old : List (Option Sl)) (sl : List (Option Sl)) : List Nat → List (Option Sl)
  | [] => sl
  | v :: vs => (restoreS old sl vs).set v ((old[v]?).getD none)
def lcGo (tg : DG) (ft : DT) (fe : DE) (vs : List Nat) : List D → List D → En → Option (List D × En)
  | [], acc, ρ => some (acc, ρ)
  | d :: ds, acc, ρ => (tg d ρ).bind fun ρ1 => (ft ρ1).bind fun x => if x.1 = true then
      (fe x.2).bind fun y => (y.1.give y.2).bind fun z => (z.2.wipe vs).bind fun ρ5 => lcGo tg ft fe vs ds (acc ++ [z.1]) ρ5
    else (x.2.wipe vs).bind fun ρ5 => lcGo tg ft fe vs ds acc ρ5
def dYes : DT := fun ρ => some (true, ρ)
/-- [fe for tg in fi if ft]: vs the comprehension's own slots -/
def dLc (fi : DI) (tg : DG) (ft : DT) (fe : DE) (vs : List Nat) : DE := fun ρ => (fi ρ).bind fun x => if x.1.length ≤ 16777216 then (x.2.wipe vs).bind fun ρw => (lcGo tg ft fe vs x.1 [] ρw).map fun y => (.fr (.list y.1), { y.2 with sl := restoreS x.2.sl y.2.sl vs }) else none

section
variable {g : G} {F F1 F2 F' : Rg} {ρ ρ1 ρ2 ρ' : En} {σ σ1 σ2 σ' : St} {H H1 H2 H' : Hp} {vs : List Nat} {B : Addr} {xs ys : List V}
theorem restoreS_length (old sl : List (Option Sl)) : ∀ vs : List Nat, (restoreS old sl vs).length = sl.length
  | [] => rfl
  | v :: vs => by unfold restoreS; rw [List.length_set, restoreS_length old sl vs]
theorem restoreS_out {old sl : List (Option Sl)} {i : Nat} : ∀ {vs : List Nat}, i ∉ vs → (restoreS old sl vs)[i]? = sl[i]?
  | [], _ => rfl
  | v :: vs, h => by
    unfold restoreS
    rw [List.getElem?_set_ne (fun e => h (by rw [e]; exact List.mem_cons_self)), restoreS_out fun m => h (List.mem_cons_of_mem _ m)]
theorem restoreS_in {old sl : List (Option Sl)} {i : Nat} (hl : old.length = sl.length) : ∀ {vs : List Nat}, i ∈ vs → (restoreS old sl vs)[i]? = old[i]?
  | v :: vs, h => by
    unfold restoreS
    by_cases e : v = i
    · subst e
      by_cases hi : v < sl.length
      · rw [List.getElem?_set_self (by rw [restoreS_length]; exact hi), List.getElem?_eq_getElem (by omega)]
        rfl
      · rw [List.getElem?_eq_none (by rw [List.length_set, restoreS_length]; omega), List.getElem?_eq_none (by omega)]
    · rw [List.getElem?_set_ne e]
      refine restoreS_in hl ?_
      rcases List.mem_cons.mp h with z | z
      · exact absurd z.symm e
      · exact z
theorem wipe_in {i : Nat} : ∀ {vs : List Nat}, i ∈ vs → (wipe σ vs)[i]? = if i < σ.length then some none else none
  | v :: vs, h => by
    unfold wipe
    by_cases e : v = i
    · subst e
      by_cases hl : v < σ.length
      · rw [if_pos hl, List.getElem?_set_self (by rw [wipe_length]; exact hl)]
      · rw [if_neg hl, List.getElem?_eq_none (by rw [List.length_set, wipe_length]; omega)]
    · rw [List.getElem?_set_ne e]
      refine wipe_in ?_
      rcases List.mem_cons.mp h with z | z
      · exact absurd z.symm e
      · exact z
theorem wipe_idem (σ : St) (vs : List Nat) : wipe (wipe σ vs) vs = wipe σ vs := by
  refine List.ext_getElem? fun i => ?_
  by_cases h : i ∈ vs
  · rw [wipe_in h, wipe_in h, wipe_length]
  · rw [wipe_out h]
theorem wipe_get {i : Nat} (h : i ∉ vs) : (wipe σ vs)[i]? = σ[i]? := wipe_out h
theorem Rel.poke (r : Rel g F ρ σ H) (hF : ¬ F B) (ho : ¬ OwnAt ρ σ B) (h0 : g.H0 B = none) (hB : H B = some (.lst xs)) : Rel g F ρ σ (upd H B (.lst ys)) := by
  have k : Keeps F F H (upd H B (.lst ys)) := ⟨fun _ h => h, fun b zs e => by
      rw [upd_ne (fun z => by subst z; rw [hB] at e; cases e)]; exact e, fun b o zs e => by
      rw [upd_ne (fun z => by subst z; rw [hB] at e; cases e)]; exact e, fun b u f e => by
      have ne : b ≠ B := fun z => hF (z ▸ f)
      rcases e with e | ⟨o, e⟩
      · exact .inl (by rw [upd_ne ne]; exact e)
      · exact .inr ⟨o, by rw [upd_ne ne]; exact e⟩⟩
  refine ⟨r.len, fun i d e => ?_, fun i d e => ?_, r.dist, r.cupT, r.cupF, r.F0, r.Fn, fun a f z => ?_, fun a o e n => ?_⟩
  · obtain ⟨v, e1, h⟩ := r.sh i d e
    exact ⟨v, e1, h.keeps k⟩
  · obtain ⟨a, e1, o, n, f⟩ := r.own i d e
    have ne : a ≠ B := fun z => ho ⟨i, d, e, z ▸ e1⟩
    exact ⟨a, e1, o.keeps k (fun u eu => by rw [upd_ne ne]; exact eu), n, f⟩
  · have ne : a ≠ B := fun z => hF (z ▸ f)
    rw [upd_ne ne] at z
    exact r.Fs a f z
  · have ne : a ≠ B := fun z => by rw [z, h0] at e; cases e
    rw [upd_ne ne]
    exact r.base a o e n
theorem Post.poke (p : Post g F ρ σ H F1 ρ1 σ1 H1) (hn : H B = none) (hF : ¬ F1 B) (ho : ¬ OwnAt ρ1 σ1 B) (h0 : g.H0 B = none) (hB : H1 B = some (.lst xs)) : Post g F ρ σ H F1 ρ1 σ1 (upd H1 B (.lst ys)) :=
  ⟨p.rel.poke hF ho h0 hB, p.mono, fun b o e n => by
    rw [upd_ne (fun z => by subst z; rw [hn] at e; cases e)]
    exact p.kept b o e n, fun b h => by
    by_cases z : b = B
    · subst z; exact absurd hn h
    · rw [upd_ne z]; exact p.there b h, p.newF, p.newO⟩
theorem poke_keeps (hF : ¬ F B) (hB : H B = some (.lst xs)) : Keeps F F H (upd H B (.lst ys)) :=
  ⟨fun _ h => h, fun b zs e => by rw [upd_ne (fun z => by subst z; rw [hB] at e; cases e)]; exact e, fun b o zs e => by rw [upd_ne (fun z => by subst z; rw [hB] at e; cases e)]; exact e, fun b u f e => by
    have ne : b ≠ B := fun z => hF (z ▸ f)
    rcases e with e | ⟨o, e⟩
    · exact .inl (by rw [upd_ne ne]; exact e)
    · exact .inr ⟨o, by rw [upd_ne ne]; exact e⟩⟩
/-- a block is left: its own slots are what they were outside -/
theorem block_end (r1 : Rel g F1 ρ1 σ H1) (hc : ¬ (ρ1.cup = true ∧ 0 ∈ vs)) (p : Post g F1 { ρ1 with sl := wipeS ρ1.sl vs } (wipe σ vs) H1 F2 ρ2 (wipe σ vs) H2) (hcup : ρ2.cup = ρ1.cup)
    (shr : ∀ b, OwnAt ρ2 (wipe σ vs) b → OwnAt { ρ1 with sl := wipeS ρ1.sl vs } (wipe σ vs) b) (pres : ∀ (i : Nat) (s : Sl), i ∉ vs → ρ1.sl[i]? = some (some s) → ∃ s', ρ2.sl[i]? = some (some s')) :
    TPo g F1 ρ1 σ H1 F2 { ρ2 with sl := restoreS ρ1.sl ρ2.sl vs } H2 := by
  have hσ : ∀ (i : Nat), i ∉ vs → (wipe σ vs)[i]? = σ[i]? := fun i h => wipe_get h
  have rw1 : Rel g F1 { ρ1 with sl := wipeS ρ1.sl vs } (wipe σ vs) H1 := r1.wiped (wipe_length _ _) hσ hc
  have r2 := p.rel
  have kp := p.keeps rw1
  have hlen : ρ1.sl.length = ρ2.sl.length := by rw [r1.len, r2.len, wipe_length]
  have out : ∀ {i : Nat}, i ∉ vs → (restoreS ρ1.sl ρ2.sl vs)[i]? = ρ2.sl[i]? := fun h => restoreS_out h
  have inn : ∀ {i : Nat}, i ∈ vs → (restoreS ρ1.sl ρ2.sl vs)[i]? = ρ1.sl[i]? := fun h => restoreS_in hlen h
  -- an own object of a forgotten slot is nobody's inside
  have nobody : ∀ {i : Nat} {d : D} {a : Addr}, i ∈ vs → ρ1.sl[i]? = some (some (.own d)) → σ[i]? = some (some (.ref a)) → ¬ OwnAt { ρ1 with sl := wipeS ρ1.sl vs } (wipe σ vs) a := fun {i d a} hi e1 e2 z => by
    obtain ⟨j, d', k1, k2⟩ := z
    obtain ⟨k3, nj⟩ := wipeS_some k1
    rw [hσ j nj] at k2
    have := r1.dist i j d d' a e1 k3 e2 k2
    subst this
    exact nj hi
  have own2 : ∀ b, OwnAt { ρ2 with sl := restoreS ρ1.sl ρ2.sl vs } σ b → OwnAt ρ1 σ b := fun b z => by
    obtain ⟨i, d, e1, e2⟩ := z
    by_cases hi : i ∈ vs
    · rw [show (restoreS ρ1.sl ρ2.sl vs)[i]? = ρ1.sl[i]? from inn hi] at e1
      exact ⟨i, d, e1, e2⟩
    · rw [show (restoreS ρ1.sl ρ2.sl vs)[i]? = ρ2.sl[i]? from out hi] at e1
      exact ownAt_wiped hσ (shr b ⟨i, d, e1, by rw [hσ i hi]; exact e2⟩)
  refine ⟨⟨⟨by show (restoreS ρ1.sl ρ2.sl vs).length = _; rw [restoreS_length, ← hlen]; exact r1.len, fun i d e => ?_, fun i d e => ?_, fun i j d e a h1 h2 h3 h4 => ?_, fun h => ?_, r2.cupF, r2.F0, r2.Fn, r2.Fs, r2.base⟩, p.mono, fun b o e n => p.kept b o e fun z => n (ownAt_wiped hσ z), p.there, fun b h => ?_, fun b h => .inl (own2 b h)⟩, fun i s e => ?_, own2⟩
  · by_cases hi : i ∈ vs
    · rw [show (restoreS ρ1.sl ρ2.sl vs)[i]? = ρ1.sl[i]? from inn hi] at e
      obtain ⟨v, e1, h⟩ := r1.sh i d e
      exact ⟨v, e1, h.keeps kp⟩
    · rw [show (restoreS ρ1.sl ρ2.sl vs)[i]? = ρ2.sl[i]? from out hi] at e
      obtain ⟨v, e1, h⟩ := r2.sh i d e
      exact ⟨v, by rw [← hσ i hi]; exact e1, h⟩
  · by_cases hi : i ∈ vs
    · rw [show (restoreS ρ1.sl ρ2.sl vs)[i]? = ρ1.sl[i]? from inn hi] at e
      obtain ⟨a, e1, o, n, f⟩ := r1.own i d e
      have nb := nobody hi e e1
      refine ⟨a, e1, o.keeps kp (fun u eu => p.kept a u eu nb), fun z => ?_, f⟩
      rcases p.newF a z with y | y | y
      · exact n y
      · obtain ⟨u, eu, _⟩ := o.mut
        rw [eu] at y
        cases y
      · exact nb y
    · rw [show (restoreS ρ1.sl ρ2.sl vs)[i]? = ρ2.sl[i]? from out hi] at e
      obtain ⟨a, e1, h⟩ := r2.own i d e
      exact ⟨a, by rw [← hσ i hi]; exact e1, h⟩
  · by_cases hi : i ∈ vs
    · rw [show (restoreS ρ1.sl ρ2.sl vs)[i]? = ρ1.sl[i]? from inn hi] at h1
      by_cases hj : j ∈ vs
      · rw [show (restoreS ρ1.sl ρ2.sl vs)[j]? = ρ1.sl[j]? from inn hj] at h2
        exact r1.dist i j d e a h1 h2 h3 h4
      · rw [show (restoreS ρ1.sl ρ2.sl vs)[j]? = ρ2.sl[j]? from out hj] at h2
        exact absurd (shr a ⟨j, e, h2, by rw [hσ j hj]; exact h4⟩) (nobody hi h1 h3)
    · rw [show (restoreS ρ1.sl ρ2.sl vs)[i]? = ρ2.sl[i]? from out hi] at h1
      by_cases hj : j ∈ vs
      · rw [show (restoreS ρ1.sl ρ2.sl vs)[j]? = ρ1.sl[j]? from inn hj] at h2
        exact absurd (shr a ⟨i, d, h1, by rw [hσ i hi]; exact h3⟩) (nobody hj h2 h4)
      · rw [show (restoreS ρ1.sl ρ2.sl vs)[j]? = ρ2.sl[j]? from out hj] at h2
        exact r2.dist i j d e a h1 h2 (by rw [hσ i hi]; exact h3) (by rw [hσ j hj]; exact h4)
  · obtain ⟨c, d, c1, c2, c3⟩ := r2.cupT h
    have n0 : 0 ∉ vs := fun z => hc ⟨by rw [← hcup]; exact h, z⟩
    exact ⟨c, d, c1, by rw [← hσ 0 n0]; exact c2, by show (restoreS ρ1.sl ρ2.sl vs)[0]? = _; rw [out n0]; exact c3⟩
  · rcases p.newF b h with z | z | z
    · exact .inl z
    · exact .inr (.inl z)
    · exact .inr (.inr (ownAt_wiped hσ z))
  · by_cases hi : i ∈ vs
    · exact ⟨s, by show (restoreS ρ1.sl ρ2.sl vs)[i]? = _; rw [inn hi]; exact e⟩
    · obtain ⟨s', e'⟩ := pres i s hi e
      exact ⟨s', by show (restoreS ρ1.sl ρ2.sl vs)[i]? = _; rw [out hi]; exact e'⟩
theorem Rel.cup_eq (r1 : Rel g F1 ρ1 σ1 H1) (r2 : Rel g F2 ρ2 σ2 H2) : ρ1.cup = ρ2.cup := by
  cases h1 : ρ1.cup with
  | true =>
    obtain ⟨c, d, c1, _⟩ := r1.cupT h1
    cases h2 : ρ2.cup with
    | true => rfl
    | false => rw [r2.cupF h2] at c1; cases c1
  | false =>
    cases h2 : ρ2.cup with
    | false => rfl
    | true =>
      obtain ⟨c, d, c1, _⟩ := r2.cupT h2
      rw [r1.cupF h1] at c1
      cases c1
end

/-- the tests of a comprehension's clause -/
def PTsD (X : Cx) (ifs : List Expr) (f : DT) : Prop := ∀ g : G, g.K = X.K → PTs X ifs (tT g f)
section
variable {X : Cx} {pos : Pos} {elt tg iter c : Expr} {ifs : List Expr} {scope : Scope} {own : List (Str × Nat)} {fi : DI} {ft : DT} {fe : DE} {fg : DG} {is : List Nat}
theorem ptsd_nil : PTsD X [] dYes := fun g hg => ⟨fun pins s σ H Q I t => by
  obtain ⟨F, ρ, r, b, ρ', e, q⟩ := t
  cases e
  exact pts_nil.run pins s σ H Q I (q H F (TPo.refl r))⟩
theorem ptsd_one (h : PTD X c ft) : PTsD X [c] ft := fun g hg => pts_one (h g hg)
theorem lc_ok {g : G} (hsub : ∀ i ∈ is, i ∈ own.map (·.2)) {σ : St} {H : Hp} {Q : VK} (t : tE g (dLc fi fg ft fe (own.map (·.2))) σ H Q) : tLc (tI g fi) (tG g fg is) (tT g ft) (tE g fe) (own.map (·.2)) σ H Q := by
  obtain ⟨F, ρ, r, w, ρ', e, q⟩ := t
  obtain ⟨⟨ds, ρ1⟩, e1, e⟩ := Option.bind_eq_some_iff.mp e
  split at e
  · rename_i hlen
    obtain ⟨ρw, ew, e⟩ := Option.bind_eq_some_iff.mp e
    obtain ⟨⟨acc, ρ2⟩, e2, e⟩ := Option.map_eq_some_iff.mp e
    cases e
    obtain ⟨hc, rfl⟩ := En.wipe_some ew
    refine ⟨F, ρ, r, ds, ρ1, e1, fun J H1 F1 p1 ok B hB => ?_⟩
    have r1 := p1.post.rel
    have hσ : ∀ (i : Nat), i ∉ own.map (·.2) → (wipe σ (own.map (·.2)))[i]? = σ[i]? := fun i h => wipe_get h
    have rw1 : Rel g F1 { ρ1 with sl := wipeS ρ1.sl (own.map (·.2)) } (wipe σ (own.map (·.2))) H1 := r1.wiped (wipe_length _ _) hσ hc
    obtain ⟨Gd, Y, wk, hG, hY⟩ := ok
    have h0 : g.H0 B = none := r1.fresh0 hB
    refine ⟨fun i m H2 => m + i = ds.length ∧ ∃ F2 ρk accD accV, Post g F1 { ρ1 with sl := wipeS ρ1.sl (own.map (·.2)) } (wipe σ (own.map (·.2))) H1 F2 ρk (wipe σ (own.map (·.2))) H2 ∧ H2 B = some (.lst accV) ∧ Dts g.K F2 H2 accD accV ∧ ¬ F2 B ∧ accD.length ≤ i ∧
      (∀ b, OwnAt ρk (wipe σ (own.map (·.2))) b → OwnAt { ρ1 with sl := wipeS ρ1.sl (own.map (·.2)) } (wipe σ (own.map (·.2))) b) ∧ (∀ (i : Nat) (s : Sl), i ∉ own.map (·.2) → ρ1.sl[i]? = some (some s) → ∃ s', ρk.sl[i]? = some (some s')) ∧
      lcGo fg ft fe (own.map (·.2)) (ds.drop i) accD ρk = some (acc, ρ2), ⟨ds.length, rfl, F1, _, [], [], (TPo.keptAll rw1 (upd_kept hB)).post, upd_same, .nil, rw1.notF hB, Nat.le_refl _, fun _ h => h, fun i s hi e => ⟨s, by show (wipeS ρ1.sl _)[i]? = _; rw [wipeS_out hi]; exact e⟩, by rw [List.drop_zero]; exact e2⟩, ?_⟩
    rintro i m H2 ⟨hm, F2, ρk, accD, accV, p2, hD, hd, nF, hl, shr, pres, e3⟩
    have r2 := p2.rel
    have nO : ¬ OwnAt ρk (wipe σ (own.map (·.2))) B := fun z => rw1.notOwnN hB (shr B z)
    have gd := hG F2 H2 (p2.keeps rw1)
    by_cases hi : i < ds.length
    · refine .inr ⟨wk.goes i H2 hi gd, fun H3 => ∃ F3 ρ3 accD accV, Post g F1 { ρ1 with sl := wipeS ρ1.sl (own.map (·.2)) } (wipe σ (own.map (·.2))) H1 F3 ρ3 (wipe σ (own.map (·.2))) H3 ∧ H3 B = some (.lst accV) ∧ Dts g.K F3 H3 accD accV ∧ ¬ F3 B ∧ accD.length ≤ i + 1 ∧
        (∀ b, OwnAt ρ3 (wipe σ (own.map (·.2))) b → OwnAt { ρ1 with sl := wipeS ρ1.sl (own.map (·.2)) } (wipe σ (own.map (·.2))) b) ∧ (∀ (i : Nat) (s : Sl), i ∉ own.map (·.2) → ρ1.sl[i]? = some (some s) → ∃ s', ρ3.sl[i]? = some (some s')) ∧
        lcGo fg ft fe (own.map (·.2)) (ds.drop (i + 1)) accD ρ3 = some (acc, ρ2), fun H3 z => ?_, fun x H3 y => ?_⟩
      · obtain ⟨F3, ρ3, a1, a2, z1, z2, z3, z4, z5, z6, z7, z8⟩ := z
        exact ⟨m - 1, by omega, by omega, F3, ρ3, a1, a2, z1, z2, z3, z4, z5, z6, z7, z8⟩
      have ed : ds.drop i = ds[i] :: ds.drop (i + 1) := List.drop_eq_getElem_cons hi
      rw [ed] at e3
      obtain ⟨ρ3, e4, e3⟩ := Option.bind_eq_some_iff.mp e3
      obtain ⟨⟨b, ρ4⟩, e5, e3⟩ := Option.bind_eq_some_iff.mp e3
      obtain ⟨tn, dn⟩ := (hY i ds[i] F2 H2 x H3 (List.getElem?_eq_getElem hi) (p2.keeps rw1) (wk.yields i H2 x H3 hi gd y)).tpo r2
      refine ⟨F2, ρk, ds[i], tn.post.rel, dn, ρ3, e4, fun σ4 r4 o4 y4 z4 => ⟨(y4 _ hsub).trans (wipe_idem _ _), F2, ρ3, r4, b, ρ4, e5, fun H5 F5 p5 => ?_⟩⟩
      have p3 := p2.trans rw1 tn.post
      have p4 : Post g F1 { ρ1 with sl := wipeS ρ1.sl (own.map (·.2)) } (wipe σ (own.map (·.2))) H1 F2 ρ3 σ4 H3 := ⟨r4, p3.mono, p3.kept, p3.there, p3.newF, fun b h => p3.newO b (o4 b h)⟩
      have pp5 := p4.trans rw1 p5.post
      have shr5 : ∀ b, OwnAt ρ4 σ4 b → OwnAt { ρ1 with sl := wipeS ρ1.sl (own.map (·.2)) } (wipe σ (own.map (·.2))) b := fun b h => shr b (o4 b (p5.shr b h))
      have hD3 : H3 B = some (.lst accV) := tn.post.kept B _ hD nO
      have nO3 : ¬ OwnAt ρ3 σ4 B := fun z => nO (o4 B z)
      have hD5 : H5 B = some (.lst accV) := p5.post.kept B _ hD3 nO3
      have hd5 : Dts g.K F5 H5 accD accV := (hd.keeps (tn.post.keeps r2)).keeps (p5.post.keeps r4)
      have nF5 : ¬ F5 B := fun z => by
        rcases p5.post.newF B z with y | y | y
        · exact nF y
        · rw [hD3] at y; cases y
        · exact nO3 y
      have pres5 : ∀ (i : Nat) (s : Sl), i ∉ own.map (·.2) → ρ1.sl[i]? = some (some s) → ∃ s', ρ4.sl[i]? = some (some s') := fun j s hj e => by
        obtain ⟨s1, k1⟩ := pres j s hj e
        obtain ⟨s2, k2⟩ := z4 j s1 (fun z => hj (hsub j z)) k1
        exact p5.pres j s2 k2
      have hσ4 : ∀ (j : Nat), j ∉ own.map (·.2) → (wipe σ (own.map (·.2)))[j]? = σ4[j]? := fun j hj => by
        have z := y4 _ hsub
        have a1 : (wipe (wipe σ (own.map (·.2))) (own.map (·.2)))[j]? = (wipe σ (own.map (·.2)))[j]? := wipe_get hj
        rw [← a1, ← z]
        exact wipe_get hj
      have hln4 : (wipe σ (own.map (·.2))).length = σ4.length := by
        have z := congrArg List.length (y4 _ hsub)
        rw [wipe_length, wipe_length] at z
        exact z.symm
      -- a turn's end: the slots are forgotten
      have fin : ∀ {F6 : Rg} {ρ5 ρ6 : En} {H6 : Hp} {accD' : List D} {accV' : List V}, Post g F1 { ρ1 with sl := wipeS ρ1.sl (own.map (·.2)) } (wipe σ (own.map (·.2))) H1 F6 ρ5 σ4 H6 → H6 B = some (.lst accV') → Dts g.K F6 H6 accD' accV' → ¬ F6 B → accD'.length ≤ i + 1 →
          (∀ b, OwnAt ρ5 σ4 b → OwnAt { ρ1 with sl := wipeS ρ1.sl (own.map (·.2)) } (wipe σ (own.map (·.2))) b) → (∀ (i : Nat) (s : Sl), i ∉ own.map (·.2) → ρ1.sl[i]? = some (some s) → ∃ s', ρ5.sl[i]? = some (some s')) → ρ5.wipe (own.map (·.2)) = some ρ6 →
          lcGo fg ft fe (own.map (·.2)) (ds.drop (i + 1)) accD' ρ6 = some (acc, ρ2) → ∃ F3 ρ3 accD accV, Post g F1 { ρ1 with sl := wipeS ρ1.sl (own.map (·.2)) } (wipe σ (own.map (·.2))) H1 F3 ρ3 (wipe σ (own.map (·.2))) H6 ∧ H6 B = some (.lst accV) ∧ Dts g.K F3 H6 accD accV ∧ ¬ F3 B ∧ accD.length ≤ i + 1 ∧
        (∀ b, OwnAt ρ3 (wipe σ (own.map (·.2))) b → OwnAt { ρ1 with sl := wipeS ρ1.sl (own.map (·.2)) } (wipe σ (own.map (·.2))) b) ∧ (∀ (i : Nat) (s : Sl), i ∉ own.map (·.2) → ρ1.sl[i]? = some (some s) → ∃ s', ρ3.sl[i]? = some (some s')) ∧
        lcGo fg ft fe (own.map (·.2)) (ds.drop (i + 1)) accD ρ3 = some (acc, ρ2) := by
        intro F6 ρ5 ρ6 H6 accD' accV' p6 hD6 hd6 nF6 hl6 shr6 pres6 e6 e7
        obtain ⟨hc6, rfl⟩ := En.wipe_some e6
        have r6 : Rel g F6 { ρ5 with sl := wipeS ρ5.sl (own.map (·.2)) } (wipe σ (own.map (·.2))) H6 := p6.rel.wiped hln4 hσ4 hc6
        exact ⟨F6, _, accD', accV', ⟨r6, p6.mono, p6.kept, p6.there, p6.newF, fun b h => p6.newO b (ownAt_wiped hσ4 h)⟩, hD6, hd6, nF6, hl6, fun b h => shr6 b (ownAt_wiped hσ4 h), fun j s hj e => by
          obtain ⟨s', k⟩ := pres6 j s hj e
          exact ⟨s', by show (wipeS ρ5.sl _)[j]? = _; rw [wipeS_out hj]; exact k⟩, e7⟩
      cases b with
      | false =>
        rw [if_neg (show ¬ (false = true) from Bool.false_ne_true)] at e3
        show (if false = true then _ else _)
        rw [if_neg (show ¬ (false = true) from Bool.false_ne_true)]
        obtain ⟨ρ6, e6, e7⟩ := Option.bind_eq_some_iff.mp e3
        exact fin pp5 hD5 hd5 nF5 (by omega) shr5 pres5 e6 e7
      | true =>
        rw [if_pos rfl] at e3
        show (if true = true then _ else _)
        rw [if_pos rfl]
        obtain ⟨⟨w', ρ5⟩, e6, e3⟩ := Option.bind_eq_some_iff.mp e3
        obtain ⟨⟨d', ρ6⟩, e7, e3⟩ := Option.bind_eq_some_iff.mp e3
        obtain ⟨ρ7, e8, e9⟩ := Option.bind_eq_some_iff.mp e3
        refine ⟨F5, ρ4, p5.post.rel, w', ρ5, e6, fun v H6 F6 p6 => ?_⟩
        obtain ⟨F7, p7, d7⟩ := p6.give e7
        have r5 := p5.post.rel
        have nO5 : ¬ OwnAt ρ4 σ4 B := fun z => nO3 (p5.shr B z)
        have hD6 : H6 B = some (.lst accV) := p7.post.kept B _ hD5 nO5
        have pp7 := pp5.trans rw1 p7.post
        have nF7 : ¬ F7 B := fun z => by
          rcases p7.post.newF B z with y | y | y
          · exact nF5 y
          · rw [hD5] at y; cases y
          · exact nO5 y
        have nO7 : ¬ OwnAt ρ6 σ4 B := fun z => nO5 (p7.shr B z)
        have hd7 : Dts g.K F7 H6 accD accV := hd5.keeps (p7.post.keeps r5)
        have hll := hd7.length
        have pk := poke_keeps (F := F7) (ys := accV ++ [v]) nF7 hD6
        refine ⟨accV, hD6, by rw [sizeLine_eq]; simp only at hlen; omega, fin (pp7.poke hB nF7 nO7 h0 hD6) upd_same ((hd7.append (.cons d7 .nil)).keeps pk) nF7 (by rw [List.length_append, List.length_singleton]; omega) (fun b h => shr5 b (p7.shr b h)) (fun j s hj e => ?_) e8 e9⟩
        obtain ⟨s1, k1⟩ := pres5 j s hj e
        exact p7.pres j s1 k1
    · have hie : i = ds.length := by omega
      subst hie
      rw [List.drop_length] at e3
      cases e3
      refine .inl ⟨wk.stops H2 gd, q _ H2 F2 ⟨p1.trans r (block_end r1 hc p2 (r2.cup_eq r1) shr pres), ⟨B, rfl, .inl ⟨_, _, rfl, hD, hd⟩, nF, fun z => ?_, h0⟩, fun a h => ?_⟩⟩
      · exact r1.notOwnN hB ((block_end r1 hc p2 (r2.cup_eq r1) shr pres).shr B z)
      · obtain ⟨_, h⟩ := h
        cases h
        cases z : H B with
        | none => rfl
        | some u => exact absurd hB (p1.post.there B (by rw [z]; exact fun y => nomatch y))
  · cases e
/-- a comprehension as a value -/
theorem ped_lc (hc : X.calm = true) (hN : X.N.Nodup) (hi : PID X tg iter fi) (ok : BlkOk X.N X.env.scope scope own)
    (hg' : ∀ (s : Shared) (H : Hp) (C : Addr) (cl : List (Str × Addr)) (fp : List Addr), PGD (X.blk s H scope (compEnvC scope cl C X.env) fp) tg fg is) (ht : ∀ (s : Shared) (H : Hp) (C : Addr) (cl : List (Str × Addr)) (fp : List Addr), PTsD (X.blk s H scope (compEnvC scope cl C X.env) fp) ifs ft)
    (he : ∀ (s : Shared) (H : Hp) (C : Addr) (cl : List (Str × Addr)) (fp : List Addr), PED (X.blk s H scope (compEnvC scope cl C X.env) fp) elt fe) (hsub : ∀ i ∈ is, i ∈ own.map (·.2) := by decide) (hs : ∀ x, foldedSetIterable iter X.env x = pure x := by intro _; rfl) :
    PED X (.ListComp elt [⟨tg, iter, ifs, 0⟩] scope pos) (dLc fi fg ft fe (own.map (·.2))) := fun g hg => (pe_lc hc hN (hi g hg) ok (fun s H C cl fp => hg' s H C cl fp g hg) (fun s H C cl fp => ht s H C cl fp g hg) (fun s H C cl fp => he s H C cl fp g hg) hs).wk fun σ H Q t => lc_ok hsub t
/-- name = [..] on one line, the name a local -/
theorem psd_setLc {i : Nat} {y : Str} {py spos : Pos} (hc : X.calm = true) (hN : X.N.Nodup) (hy : X.N[i]? = some y) (hyl : X.env.scope.names.lookup y = some .local) (hsw : swapsWith (.ListComp elt [⟨tg, iter, ifs, 0⟩] scope pos) (some (.Name y py)) spos.line X.env = pure true)
    (hi : PID X tg iter fi) (ok : BlkOk X.N X.env.scope scope own)
    (hg' : ∀ (s : Shared) (H : Hp) (C : Addr) (cl : List (Str × Addr)) (fp : List Addr), PGD (X.blk s H scope (compEnvC scope cl C X.env) fp) tg fg is) (ht : ∀ (s : Shared) (H : Hp) (C : Addr) (cl : List (Str × Addr)) (fp : List Addr), PTsD (X.blk s H scope (compEnvC scope cl C X.env) fp) ifs ft)
    (he : ∀ (s : Shared) (H : Hp) (C : Addr) (cl : List (Str × Addr)) (fp : List Addr), PED (X.blk s H scope (compEnvC scope cl C X.env) fp) elt fe) (hsub : ∀ i ∈ is, i ∈ own.map (·.2) := by decide) (hs : ∀ x, foldedSetIterable iter X.env x = pure x := by intro _; rfl) :
    PSD X (.Assign [.Name y py] (.ListComp elt [⟨tg, iter, ifs, 0⟩] scope pos) spos) (dSet i (dLc fi fg ft fe (own.map (·.2)))) :=
  psd_of_set (te := fun g => tE g (dLc fi fg ft fe (own.map fun (x : Str × Nat) => x.2))) (fun g hg => (ps_setLc hc hN hy hyl hsw (hi g hg) ok (fun s H C cl fp => hg' s H C cl fp g hg) (fun s H C cl fp => ht s H C cl fp g hg) (fun s H C cl fp => he s H C cl fp g hg) hs).wk fun E σ H t => lc_ok (own := own) hsub (show tE g (dLc fi fg ft fe (own.map (·.2))) σ H (fun x H1 => gName i x σ H1 E.nx) from t)) fun _ => rfl
end
end PD
set_option Elab.async false
set_option linter.all false
set_option maxRecDepth 100000
set_option maxHeartbeats 4000000
/-! PD10: defs of the text: what they promise over data, how they are called. -/
namespace PD
set_option autoImplicit false
open PySem PySem.Spec L2
open PyProof.Rows hiding St

/-- a def's result: is its top new, the datum -/
abbrev FS := List D → Option (Bool × D)
/-- .. of a def whose first argument is a list that it changes: behind it, what that list is now -/
abbrev FC := D → List D → Option ((Bool × D) × D)
def RRes (K : PySem.W.Frag) (F' : Rg) (H H' : Hp) (d : D) (v : V) : Bool → Prop
  | true => ∃ a, v = .ref a ∧ Mo K F' H' d a ∧ ¬ F' a ∧ H a = none
  | false => Dt K F' H' d v
def spD (K : PySem.W.Frag) (sem : FS) : Sp := fun vs H Q _ => ∃ (F : Rg) (ds : List D), (∀ a, F a → H a ≠ none) ∧ Dts K F H ds vs ∧ ∃ fr d, sem ds = some (fr, d) ∧
  ∀ v H' (F' : Rg), (∀ a, F a → F' a) → (∀ a, F' a → F a ∨ H a = none) → (∀ a, F' a → H' a ≠ none) → Same H H' → RRes K F' H H' d v fr → Q v H'
def spC (K : PySem.W.Frag) (sem : FC) : Sp := fun vs H Q _ => ∃ (c : Addr) (us : List V) (F : Rg) (cd : D) (ds : List D), vs = .ref c :: us ∧ (∀ a, F a → H a ≠ none) ∧ ¬ F c ∧ Mo K F H cd c ∧ Dts K F H ds us ∧ ∃ fr d cd', sem cd ds = some ((fr, d), cd') ∧
  ∀ v H' (F' : Rg), (∀ a, F a → F' a) → (∀ a, F' a → F a ∨ H a = none) → (∀ a, F' a → H' a ≠ none) → (∀ b o, b ≠ c → H b = some o → H' b = some o) → Mo K F' H' cd' c → ¬ F' c → RRes K F' H H' d v fr → Q v H'

/-! ### from a body -/
def slots (ds : List D) (n : Nat) : List (Option Sl) := ds.map (fun d => some (Sl.sh d)) ++ List.replicate (n - ds.length) none
def endOf : Fl → Option ((Bool × D) × En)
  | .nx ρ => some ((false, .none), ρ)
  | .rt (.sh d) ρ => some ((false, d), ρ)
  | .rt (.fr d) ρ => some ((true, d), ρ)
  | .rt (.vr i) ρ => match ρ.sl[i]? with
    | some (some (.sh d)) => some ((false, d), ρ)
    | some (some (.own d)) => if ρ.cup = true ∧ i = 0 then none else some ((true, d), ρ)
    | _ => none
  | _ => none
/-- n: how many slots -/
def semOf (n : Nat) (fb : DS) : FS := fun ds => (fb ⟨false, slots ds n⟩).bind fun fl => (endOf fl).map fun x => x.1
def semC (n : Nat) (fb : DS) : FC := fun cd ds => (fb ⟨true, some (.own cd) :: slots ds (n - 1)⟩).bind fun fl => (endOf fl).bind fun (x : (Bool × D) × En) => match x.2.sl[0]? with
  | some (some (Sl.own c)) => some (x.1, c)
  | _ => none
section
variable {K : PySem.W.Frag} {F F' : Rg} {H H' : Hp} {g : G} {ρ ρ' : En} {σ σ' : St}
theorem slots_get {ds : List D} {n i : Nat} {s : Sl} (h : (slots ds n)[i]? = some (some s)) : ∃ d, ds[i]? = some d ∧ s = .sh d := by
  unfold slots at h
  by_cases hi : i < ds.length
  · rw [List.getElem?_append_left (by simpa using hi), List.getElem?_map] at h
    obtain ⟨d, h1, h2⟩ := Option.map_eq_some_iff.mp h
    exact ⟨d, h1, (Option.some.inj h2).symm⟩
  · rw [List.getElem?_append_right (by simpa using Nat.le_of_not_lt hi)] at h
    rw [List.getElem?_replicate] at h
    split at h <;> cases h
theorem start_get {N : List Str} {vs : List V} {i : Nat} {v : V} (h : vs[i]? = some v) : (L2.start N vs)[i]? = some (some v) := by
  unfold L2.start
  have hi := (List.getElem?_eq_some_iff.mp h).1
  rw [List.getElem?_append_left (by simpa using hi), List.getElem?_map, h]
  rfl
theorem start_rel {N : List Str} {vs : List V} {ds : List D} (hd : Dts K F H ds vs) (hF : ∀ a, F a → H a ≠ none) : Rel ⟨K, H, F, none⟩ F ⟨false, slots ds N.length⟩ (L2.start N vs) H where
  len := by
    have := hd.length
    unfold slots L2.start
    simp [this]
  sh := fun i d e => by
    obtain ⟨d', h1, h2⟩ := slots_get e
    cases h2
    obtain ⟨v, h3, h4⟩ := hd.get h1
    exact ⟨v, start_get h3, h4⟩
  own := fun i d e => by
    obtain ⟨d', h1, h2⟩ := slots_get e
    cases h2
  dist := fun i j d e a h1 => by
    obtain ⟨d', h1, h2⟩ := slots_get h1
    cases h2
  cupT := fun h => by cases h
  cupF := fun _ => rfl
  F0 := fun _ h => h
  Fn := fun _ h => .inl h
  Fs := hF
  base := fun _ _ h _ => h
theorem res_of {w : W} {v : V} {x : (Bool × D) × En} {F0 : Rg} {H0 : Hp} {cup : Option Addr} (r : Rel ⟨K, H0, F0, cup⟩ F' ρ' σ' H') (h : RW ⟨K, H0, F0, cup⟩ F' ρ' σ' H' v w) (he : endOf (.rt w ρ') = some x) : x.2 = ρ' ∧ RRes K F' H0 H' x.1.2 v x.1.1 := by
  cases w with
  | sh d => cases he; exact ⟨rfl, h⟩
  | fr d =>
    cases he
    obtain ⟨a, e, o, n, _, f⟩ := h
    exact ⟨rfl, a, e, o, n, f⟩
  | vr i =>
    obtain ⟨e, s, q⟩ := h
    simp only [endOf, q] at he
    cases s with
    | sh d =>
      cases he
      obtain ⟨v', e2, h⟩ := r.sh i d q
      rw [e] at e2
      cases e2
      exact ⟨rfl, h⟩
    | own d =>
      simp only at he
      split at he
      · cases he
      · rename_i hc
        cases he
        obtain ⟨a, e2, o, n, f⟩ := r.own i d q
        rw [e] at e2
        cases e2
        refine ⟨rfl, a, rfl, o, n, ?_⟩
        rcases f with f | f
        · exact f
        · cases hcu : ρ'.cup with
          | false => rw [r.cupF hcu] at f; cases f
          | true =>
            obtain ⟨c, d', c1, c2, c3⟩ := r.cupT hcu
            rw [f] at c1
            cases c1
            exact absurd ⟨hcu, r.dist i 0 d d' a q c3 e c2⟩ hc
end
section
variable {P : Program} {w : World} {K : PySem.W.Frag} {mg : Str → Option Value} {base : Heap} {x qual : Str} {st : Stmt} {f : Addr} {fd : FuncData} {N ps : List Str} {k : Nat}
/-- a def's promise, by its body's reading -/
theorem fnD (Fx : Fun K x qual st f fd) (S : FnScope N ps (defScope st)) (fb : DS)
    (hbody : ∀ (cdv : Value) (A : Around) (outer : List Env) (s : Shared) (H : Hp) (E : XK), Room k (A.deeper (envOfC qual (defScope st) s.heap.objs.size f cdv)) → PSsD (cxOf CX0 P w K mg base N qual (defScope st) f cdv A outer s H E).nox (defBody st) fb)
    (sem : FS) (hsem : ∀ ds, ds.length = ps.length → ∀ x, sem ds = some x → semOf N.length fb ds = some x) (hlen : ∀ ds x, sem ds = some x → ds.length = ps.length) : FnOk P w K mg base CX0 (k + 1) f fd ps (spD K sem) := by
  refine Fx.ok S (fun vs H Q E h => ?_) (fun cdv A outer s H vs Q E hr h => ?_)
  · obtain ⟨F, ds, _, hd, fr, d, e, _⟩ := h
    rw [← hd.length]
    exact hlen ds _ e
  · obtain ⟨F, ds, hF, hd, fr, d, e, q⟩ := h
    have e2 := hsem ds (hlen ds _ e) _ e
    obtain ⟨fl, e3, e2⟩ := Option.bind_eq_some_iff.mp e2
    obtain ⟨y, e4, e5⟩ := Option.map_eq_some_iff.mp e2
    refine ⟨_, hbody cdv A outer s H E hr ⟨K, H, F, none⟩ rfl, F, ⟨false, slots ds N.length⟩, start_rel hd hF, fl, e3, ?_⟩
    have fin : ∀ {F' : Rg} {ρ' : En} {σ' : St} {H' : Hp} {v : V}, Post ⟨K, H, F, none⟩ F ⟨false, slots ds N.length⟩ (L2.start N vs) H F' ρ' σ' H' → RRes K F' H H' d v fr → Q v H' := fun {F' ρ' σ' H' v} p r =>
      q v H' F' p.mono p.rel.Fn p.rel.Fs (fun b o h => p.rel.base b o h (fun z => nomatch z)) r
    cases fl with
    | nx ρ' =>
      cases e4
      cases e5
      exact fun σ' H' F' p => fin p .non
    | bk ρ' => cases e4
    | ct ρ' => cases e4
    | rt u ρ' =>
      intro v σ' H' F' p h
      obtain ⟨_, r⟩ := res_of p.rel h e4
      rw [e5] at r
      exact fin p r
/-- the same of a def that changes its first argument -/
theorem fnC (Fx : Fun K x qual st f fd) (S : FnScope N ps (defScope st)) (fb : DS) (hN : 0 < N.length)
    (hbody : ∀ (cdv : Value) (A : Around) (outer : List Env) (s : Shared) (H : Hp) (E : XK), Room k (A.deeper (envOfC qual (defScope st) s.heap.objs.size f cdv)) → PSsD (cxOf CX0 P w K mg base N qual (defScope st) f cdv A outer s H E).nox (defBody st) fb)
    (sem : FC) (hsem : ∀ cd ds, ds.length + 1 = ps.length → ∀ x, sem cd ds = some x → semC N.length fb cd ds = some x) (hlen : ∀ cd ds x, sem cd ds = some x → ds.length + 1 = ps.length) : FnOk P w K mg base CX0 (k + 1) f fd ps (spC K sem) := by
  refine Fx.ok S (fun vs H Q E h => ?_) (fun cdv A outer s H vs Q E hr h => ?_)
  · obtain ⟨c, us, F, cd, ds, rfl, _, _, _, hd, fr, d, cd', e, _⟩ := h
    rw [List.length_cons, ← hd.length]
    exact hlen cd ds _ e
  · obtain ⟨c, us, F, cd, ds, rfl, hF, hc, hm, hd, fr, d, cd', e, q⟩ := h
    have e2 := hsem cd ds (hlen cd ds _ e) _ e
    obtain ⟨fl, e3, e2⟩ := Option.bind_eq_some_iff.mp e2
    obtain ⟨y, e4, e5⟩ := Option.bind_eq_some_iff.mp e2
    have r0 : Rel ⟨K, H, F, some c⟩ F ⟨true, some (.own cd) :: slots ds (N.length - 1)⟩ (L2.start N (.ref c :: us)) H := by
      have hl := hd.length
      have zero : (L2.start N (.ref c :: us))[0]? = some (some (.ref c)) := start_get (by rfl)
      have up : ∀ {i : Nat} {v : V}, us[i]? = some v → (L2.start N (.ref c :: us))[i + 1]? = some (some v) := fun h => start_get (by simpa using h)
      refine ⟨?_, fun i d e => ?_, fun i d e => ?_, fun i j d e a h1 h2 h3 h4 => ?_, fun _ => ⟨c, cd, rfl, zero, rfl⟩, fun h => (by cases h), fun _ h => h, fun _ h => .inl h, hF, fun a o h _ => h⟩
      · unfold slots L2.start
        simp only [List.length_cons, List.length_append, List.length_map, List.length_replicate]
        omega
      · cases i with
        | zero => cases e
        | succ i =>
          obtain ⟨d', h1, h2⟩ := slots_get (show (slots ds (N.length - 1))[i]? = _ by simpa using e)
          cases h2
          obtain ⟨v, h3, h4⟩ := hd.get h1
          exact ⟨v, up h3, h4⟩
      · cases i with
        | zero =>
          cases e
          exact ⟨c, zero, hm, hc, .inr rfl⟩
        | succ i =>
          obtain ⟨d', h1, h2⟩ := slots_get (show (slots ds (N.length - 1))[i]? = _ by simpa using e)
          cases h2
      · cases i with
        | zero =>
          cases j with
          | zero => rfl
          | succ j =>
            obtain ⟨d', k1, k2⟩ := slots_get (show (slots ds (N.length - 1))[j]? = _ by simpa using h2)
            cases k2
        | succ i =>
          obtain ⟨d', k1, k2⟩ := slots_get (show (slots ds (N.length - 1))[i]? = _ by simpa using h1)
          cases k2
    refine ⟨_, hbody cdv A outer s H E hr ⟨K, H, F, some c⟩ rfl, F, _, r0, fl, e3, ?_⟩
    have fin : ∀ {F' : Rg} {ρ' : En} {σ' : St} {H' : Hp} {v : V}, Post ⟨K, H, F, some c⟩ F ⟨true, some (.own cd) :: slots ds (N.length - 1)⟩ (L2.start N (.ref c :: us)) H F' ρ' σ' H' → ρ'.sl[0]? = some (some (.own cd')) → RRes K F' H H' d v fr → Q v H' := fun {F' ρ' σ' H' v} p h0 r => by
      have hcu : ρ'.cup = true := p.rel.cup_eq r0
      obtain ⟨c', d', c1, c2, c3⟩ := p.rel.cupT hcu
      cases c1
      rw [h0] at c3
      cases c3
      obtain ⟨a, a1, a2, a3, _⟩ := p.rel.own 0 _ h0
      rw [c2] at a1
      cases a1
      exact q v H' F' p.mono p.rel.Fn p.rel.Fs (fun b o hb h => p.rel.base b o h (fun z => hb (Option.some.inj z).symm)) a2 a3 r
    have get0 : ∀ {y : (Bool × D) × En}, (match y.2.sl[0]? with
        | some (some (Sl.own c)) => some (y.1, c)
        | _ => none) = some ((fr, d), cd') → y.1 = (fr, d) ∧ y.2.sl[0]? = some (some (.own cd')) := fun {y} h => by
      split at h
      · rename_i c hc
        obtain ⟨h1, h2⟩ := Prod.mk.inj (Option.some.inj h)
        subst h2
        exact ⟨h1, hc⟩
      · cases h
    obtain ⟨g1, g2⟩ := get0 e5
    cases fl with
    | nx ρ' =>
      have e6 : y = ((false, .none), ρ') := (Option.some.inj e4).symm
      rw [e6] at g1 g2
      obtain ⟨h1, h2⟩ := Prod.mk.inj g1
      subst h1 h2
      exact fun σ' H' F' p => fin p g2 .non
    | bk ρ' => cases e4
    | ct ρ' => cases e4
    | rt u ρ' =>
      intro v σ' H' F' p h
      obtain ⟨e6, r⟩ := res_of p.rel h e4
      rw [g1] at r
      rw [e6] at g2
      exact fin p g2 r
end

/-! ### calls -/
def gets : List W → En → Option (List D)
  | [], _ => some []
  | w :: ws, ρ => (w.get ρ).bind fun d => (gets ws ρ).map fun ds => d :: ds
def light : Bool → D → Bool
  | true, d => inner d
  | false, d => imm d
def wOf : Bool → D → W
  | true, d => .fr d
  | false, d => .sh d
def dCall (sem : FS) (fs : DA) : DE := fun ρ => (fs ρ).bind fun x => (gets x.1 x.2).bind fun ds => (sem ds).bind fun y => if light y.1 y.2 = true then some (wOf y.1 y.2, x.2) else (gives x.1 x.2).map fun z => (wOf y.1 y.2, z.2)
section
variable {g : G} {F F1 F2 F' : Rg} {ρ ρ1 ρ2 ρ' : En} {σ σ1 σ' : St} {H H1 H2 H' : Hp}
theorem give_get {w : W} {d : D} (e : w.give ρ = some (d, ρ')) : w.get ρ = some d ∧ ∀ j, ρ'.at j = ρ.at j := by
  cases w with
  | sh d' => cases e; exact ⟨rfl, fun _ => rfl⟩
  | fr d' => cases e; exact ⟨rfl, fun _ => rfl⟩
  | vr i =>
    simp only [W.give] at e
    split at e
    · rename_i d' hd
      cases e
      exact ⟨by simp only [W.get, En.at, hd, Sl.d], fun _ => rfl⟩
    · rename_i d' hd
      split at e
      · cases e
      · cases e
        refine ⟨by simp only [W.get, En.at, hd, Sl.d], fun j => ?_⟩
        by_cases hj : i = j
        · subst hj
          have hl := (List.getElem?_eq_some_iff.mp hd).1
          simp only [En.at, hd, List.getElem?_set_self hl, Sl.d]
        · simp only [En.at, List.getElem?_set_ne hj]
    · cases e
theorem get_congr (h : ∀ j, ρ'.at j = ρ.at j) (w : W) : w.get ρ' = w.get ρ := by
  cases w with
  | sh d => rfl
  | fr d => rfl
  | vr i => exact h i
theorem gets_congr (h : ∀ j, ρ'.at j = ρ.at j) : ∀ ws : List W, gets ws ρ' = gets ws ρ
  | [] => rfl
  | w :: ws => by rw [gets, gets, get_congr h, gets_congr h ws]
theorem gives_gets : ∀ {ws : List W} {ds : List D} {ρ ρ' : En}, gives ws ρ = some (ds, ρ') → gets ws ρ = some ds
  | [], _, _, _, e => by cases e; rfl
  | w :: ws, ds, ρ, ρ', e => by
    obtain ⟨⟨d, ρ1⟩, e1, e⟩ := Option.bind_eq_some_iff.mp e
    obtain ⟨⟨ds', ρ2⟩, e2, e⟩ := Option.map_eq_some_iff.mp e
    cases e
    obtain ⟨h1, h2⟩ := give_get e1
    have h3 := gives_gets e2
    rw [gets_congr h2] at h3
    rw [gets, h1, h3]
    rfl
theorem RWs.dts (r : Rel g F ρ σ H) {F' : Rg} (m : ∀ a, F a → F' a) : ∀ {vs : List V} {ws : List W} {ds : List D}, RWs g F ρ σ H vs ws → gets ws ρ = some ds →
    (∀ (i : Nat) (y : W) (a : Addr), ws[i]? = some y → vs[i]? = some (.ref a) → (ownV ρ σ y a ∨ frAt y (.ref a) a) → F' a) → Dts g.K F' H ds vs
  | _, _, _, .nil, e, _ => by cases e; exact .nil
  | _, _, _, .cons h t n, e, k => by
    obtain ⟨d, e1, e⟩ := Option.bind_eq_some_iff.mp e
    obtain ⟨ds', e2, e⟩ := Option.map_eq_some_iff.mp e
    cases e
    refine .cons (h.dt r e1 m fun a ev o => ?_) (RWs.dts r m t e2 fun i y a h1 h2 => k (i + 1) y a (by simpa using h1) (by simpa using h2))
    subst ev
    exact k 0 _ a rfl rfl o
/-- the region grows by what is nobody's -/
theorem Rel.wider (r : Rel g F ρ σ H) (mono : ∀ a, F a → F' a) (new : ∀ a, F' a → F a ∨ (¬ OwnAt ρ σ a ∧ g.H0 a = none ∧ H a ≠ none)) : Rel g F' ρ σ H := by
  have k : Keeps F F' H H := ⟨mono, fun _ _ h => h, fun _ _ _ h => h, fun _ _ _ h => h⟩
  refine ⟨r.len, fun i d e => ?_, fun i d e => ?_, r.dist, r.cupT, r.cupF, fun a h => mono a (r.F0 a h), fun a h => ?_, fun a h => ?_, r.base⟩
  · obtain ⟨v, e1, h⟩ := r.sh i d e
    exact ⟨v, e1, h.keeps k⟩
  · obtain ⟨a, e1, o, n, f⟩ := r.own i d e
    refine ⟨a, e1, o.keeps k (fun _ h => h), fun z => ?_, f⟩
    rcases new a z with z | ⟨z, _⟩
    · exact n z
    · exact z ⟨i, d, e, e1⟩
  · rcases new a h with z | ⟨_, z, _⟩
    · exact r.Fn a z
    · exact .inr z
  · rcases new a h with z | ⟨_, _, z⟩
    · exact r.Fs a z
    · exact z
theorem Mo.inner {K : PySem.W.Frag} {d : D} {a : Addr} (h : Mo K F H d a) (e : inner d = true) : Mo K F' H d a := by
  rcases h with ⟨ds, xs, rfl, h1, h2⟩ | ⟨ds, xs, rfl, h1, h2⟩ | ⟨ds, xs, rfl, h1, h2⟩
  · exact .inl ⟨ds, xs, rfl, h1, h2.imm0 Keeps0.refl e⟩
  · exact .inr (.inl ⟨ds, xs, rfl, h1, h2.imm0 Keeps0.refl e⟩)
  · exact .inr (.inr ⟨ds, xs, rfl, h1, h2.imm0 Keeps0.refl (by
      have e' : (imm .none && imms (ds.map (·.2))) = true := e
      rw [Bool.and_eq_true] at e'
      exact e'.2)⟩)
theorem Mo.there {K : PySem.W.Frag} {d : D} {a : Addr} (h : Mo K F H d a) : H a ≠ none := by
  obtain ⟨u, eu, _⟩ := h.mut
  rw [eu]
  exact fun z => nomatch z
/-- behind a call that keeps all that stood: H the heap at the call, F the region at the call as the callee saw it -/
theorem after_call {fr : Bool} {d : D} {v : V} (r : Rel g F ρ σ H) (sm : Same H H') {Fc Fr : Rg} (hc : ∀ a, Fr a → Fc a ∨ H a = none) (hs : ∀ a, Fr a → H' a ≠ none) (res : RRes g.K Fr H H' d v fr) (lt : light fr d = true ∨ (∀ a, Fc a → F a) ∧ ∀ a, F a → Fr a) :
    ∃ F', EPo g F ρ σ H (wOf fr d) ρ v F' H' := by
  have t0 := TPo.keptAll r sm
  have r0 := t0.post.rel
  have nw : ∀ a, Fr a → H a = none → ¬ OwnAt ρ σ a ∧ g.H0 a = none ∧ H' a ≠ none := fun a f h => ⟨r.notOwnN h, r.fresh0 h, hs a f⟩
  have key : ∀ {F' : Rg}, (∀ a, F a → F' a) → (∀ a, F' a → F a ∨ (Fr a ∧ H a = none)) → RRes g.K F' H H' d v fr → ∃ F', EPo g F ρ σ H (wOf fr d) ρ v F' H' := fun {F'} m n res' => by
    have r1 : Rel g F' ρ σ H' := r0.wider m fun a h => (n a h).imp id fun z => nw a z.1 z.2
    refine ⟨F', ⟨⟨⟨r1, m, t0.post.kept, t0.post.there, fun b h => ?_, t0.post.newO⟩, t0.pres, t0.shr⟩, ?_, fun a h => ?_⟩⟩
    · rcases n b h with z | ⟨_, z⟩
      · exact .inl z
      · exact .inr (.inl z)
    · cases fr with
      | false => exact res'
      | true =>
        obtain ⟨a, rfl, o, nF, hn⟩ := res'
        exact ⟨a, rfl, o, nF, r.notOwnN hn, r.fresh0 hn⟩
    · cases fr with
      | false => obtain ⟨⟨_, z⟩, _⟩ := h; cases z
      | true =>
        obtain ⟨_, h⟩ := h
        obtain ⟨b, e, _, _, hn⟩ := res'
        rw [h] at e
        cases e
        exact hn
  rcases lt with lt | ⟨h1, h2⟩
  · refine key (F' := fun a => F a ∨ (Fr a ∧ H a = none)) (fun _ h => .inl h) (fun _ h => h) ?_
    cases fr with
    | false => exact Dt.imm res lt
    | true =>
      obtain ⟨a, e, o, n, hn⟩ := res
      exact ⟨a, e, o.inner lt, fun z => z.elim (fun z => r.Fs a z hn) (fun z => n z.1), hn⟩
  · exact key h2 (fun a h => (hc a h).elim (fun z => .inl (h1 a z)) fun z => .inr ⟨h, z⟩) res
end
section
variable {X : Cx} {k : Nat} {f : Addr} {fd : FuncData} {ps : List Str} {x : Str} {p pos : Pos} {e : Expr} {es : List Expr} {fs : DA} {sem : FS}
theorem call_ok {g : G} (hg : g.K = X.K) {σ : St} {H : Hp} {Q : VK} (t : tE g (dCall sem fs) σ H Q) : tCall (spD X.K sem) [] E0 (tA g fs) σ H Q := by
  obtain ⟨F, ρ, r, w, ρ', e, q⟩ := t
  obtain ⟨⟨ws, ρ1⟩, e1, e⟩ := Option.bind_eq_some_iff.mp e
  obtain ⟨ds, e2, e⟩ := Option.bind_eq_some_iff.mp e
  obtain ⟨⟨fr, d⟩, e3, e⟩ := Option.bind_eq_some_iff.mp e
  refine ⟨F, ρ, r, ws, ρ1, e1, fun vs H1 F1 p1 => ?_⟩
  show spD X.K sem (vs ++ []) H1 Q E0
  rw [List.append_nil]
  have r1 := p1.t.post.rel
  split at e
  · rename_i lt
    cases e
    refine ⟨fun b => F1 b ∨ ∃ (i : Nat) (y : W), ws[i]? = some y ∧ vs[i]? = some (.ref b) ∧ (ownV ρ1 σ y b ∨ frAt y (.ref b) b), ds, fun a h => ?_, hg ▸ p1.rw.dts r1 (fun _ h => .inl h) e2 (fun i y a h1 h2 h3 => .inr ⟨i, y, h1, h2, h3⟩), fr, d, e3, fun v H' Fr m n s sm res => ?_⟩
    · rcases h with h | ⟨i, y, h1, h2, h3 | h3⟩
      · exact r1.Fs a h
      · intro z
        obtain ⟨d, o, _⟩ := r1.ownObj h3.at
        exact o.there z
      · obtain ⟨v, hv, hw⟩ := p1.rw.get h1
        rw [h2] at hv
        cases hv
        exact hw.frs h3
    · obtain ⟨F', ep⟩ := after_call r1 sm n s (hg ▸ res) (.inl lt)
      exact q v H' F' (EPo.then r p1.t ep)
  · obtain ⟨⟨ds', ρ2⟩, e4, e⟩ := Option.map_eq_some_iff.mp e
    cases e
    obtain ⟨F2, p2, hd⟩ := p1.gives e4
    have := gives_gets e4
    rw [e2] at this
    cases this
    have r2 := p2.post.rel
    refine ⟨F2, ds, r2.Fs, hg ▸ hd, fr, d, e3, fun v H' Fr m n s sm res => ?_⟩
    obtain ⟨F', ep⟩ := after_call r2 sm n s (hg ▸ res) (.inr ⟨fun _ h => h, m⟩)
    exact q v H' F' (EPo.then r p2 ep)
theorem ped_call (Fn : FnOk X.prog X.w X.K X.mg X.base CX0 k f fd ps (spD X.K sem)) (hr : Room k X.A) (hG : Gl X x) (hm : X.mg x = some (.ref f)) (hk : PySem.W.keepIn X.K (.ref f) = true) (hb : L2.Binds X.K fd ps []) (ha : PAD X (e :: es) fs)
    (hdb : (x == ("__debug__" : Str)) = false := by decide) (he : starEach (e :: es) X.env = (false, eval e X.env) :: starEach es X.env := by rfl) (hpl : (backTo pos (starEach es X.env)).any (·.1) = false := by rfl) :
    PED X (.Call (.Name x p) (e :: es) [] pos) (dCall sem fs) := fun g hg => (pe_call Fn hr hG hm hk hb .nil pass0 (ha g hg) hdb he hpl).wk fun σ H Q t => call_ok hg t
theorem ped_call0 (Fn : FnOk X.prog X.w X.K X.mg X.base CX0 k f fd ps (spD X.K sem)) (hr : Room k X.A) (hG : Gl X x) (hm : X.mg x = some (.ref f)) (hk : PySem.W.keepIn X.K (.ref f) = true) (hb : L2.Binds X.K fd ps []) (hdb : (x == ("__debug__" : Str)) = false := by decide) :
    PED X (.Call (.Name x p) [] [] pos) (dCall sem dNil) := fun g hg => (pe_call0 Fn hr hG hm hk hb .nil pass0 hdb).wk fun σ H Q t => by
  have z := call_ok hg t
  obtain ⟨F, ρ, r, w, ρ', e, q⟩ := t
  obtain ⟨F1, ρ1, r1, ws, ρ2, e1, q1⟩ := z
  cases e1
  exact q1 [] H F1 ⟨TPo.refl r1, .nil, fun i y u a h => by simp at h⟩
end
end PD
set_option Elab.async false
set_option linter.all false
set_option maxRecDepth 100000
set_option maxHeartbeats 4000000
/-! PD11: calls that change their first argument. -/
namespace PD
set_option autoImplicit false
open PySem PySem.Spec L2
open PyProof.Rows hiding St

def notVr (i : Nat) : W → Bool
  | .vr j => decide (j ≠ i)
  | _ => true
def En.own (ρ : En) (i : Nat) (d : D) : En := { ρ with sl := ρ.sl.set i (some (.own d)) }
def dCallC (sem : FC) (fs : DA) : DE := fun ρ => (fs ρ).bind fun x => match x.1 with
  | .vr i :: us => match x.2.sl[i]? with
    | some (some (.own cd)) => if us.all (notVr i) = true then (gets us x.2).bind fun ds => (sem cd ds).bind fun y => if inner y.2 = true then
        if light y.1.1 y.1.2 = true then some (wOf y.1.1 y.1.2, x.2.own i y.2) else (gives us x.2).map fun z => (wOf y.1.1 y.1.2, z.2.own i y.2)
      else none else none
    | _ => none
  | _ => none
section
variable {g : G} {F F1 F2 F' : Rg} {ρ ρ1 ρ2 ρ' : En} {σ σ1 σ' : St} {H H1 H2 H' : Hp}
theorem gives_slot {i : Nat} : ∀ {us : List W} {ds : List D} {ρ ρ' : En}, us.all (notVr i) = true → gives us ρ = some (ds, ρ') → ρ'.sl[i]? = ρ.sl[i]?
  | [], _, _, _, _, e => by cases e; rfl
  | w :: ws, ds, ρ, ρ', n, e => by
    obtain ⟨⟨d, ρ1⟩, e1, e⟩ := Option.bind_eq_some_iff.mp e
    obtain ⟨⟨ds', ρ2⟩, e2, e⟩ := Option.map_eq_some_iff.mp e
    cases e
    rw [List.all_cons, Bool.and_eq_true] at n
    rw [gives_slot n.2 e2]
    cases w with
    | sh d => cases e1; rfl
    | fr d => cases e1; rfl
    | vr j =>
      have hj : j ≠ i := of_decide_eq_true n.1
      simp only [W.give] at e1
      split at e1
      · cases e1; rfl
      · split at e1
        · cases e1
        · cases e1
          exact List.getElem?_set_ne hj
      · cases e1
theorem Rel.mutate {i : Nat} {c : Addr} {cd cd' : D} (r : Rel g F ρ σ H) (e : ρ.sl[i]? = some (some (.own cd))) (es : σ[i]? = some (some (.ref c))) (k : ∀ b o, b ≠ c → H b = some o → H' b = some o) (m : Mo g.K F H' cd' c) :
    Rel g F (ρ.own i cd') σ H' ∧ ∀ b, OwnAt (ρ.own i cd') σ b → OwnAt ρ σ b := by
  obtain ⟨c', e2, mo, nF, f⟩ := r.own i cd e
  rw [es] at e2
  cases e2
  obtain ⟨u, eu, _, ut, uz⟩ := mo.mut
  have kp : Keeps F F H H' := ⟨fun _ h => h, fun b xs h => k b _ (fun z => by subst z; rw [eu] at h; cases h; exact ut _ rfl) h, fun b o xs h => k b _ (fun z => by subst z; rw [eu] at h; cases h; exact uz _ _ rfl) h, fun b u fb h => by
    have ne : b ≠ c := fun z => nF (z ▸ fb)
    rcases h with h | ⟨o, h⟩
    · exact .inl (k b _ ne h)
    · exact .inr ⟨o, k b _ ne h⟩⟩
  have hi := (List.getElem?_eq_some_iff.mp e).1
  have own2 : ∀ b, OwnAt (ρ.own i cd') σ b → OwnAt ρ σ b := fun b z => by
    obtain ⟨j, d, h1, h2⟩ := z
    rcases set_at h1 with ⟨rfl, _, _⟩ | ⟨_, h1⟩
    · exact ⟨_, cd, e, h2⟩
    · exact ⟨j, d, h1, h2⟩
  refine ⟨⟨by show (ρ.sl.set i _).length = _; rw [List.length_set]; exact r.len, fun j d h => ?_, fun j d h => ?_, fun j l d1 d2 a h1 h2 h3 h4 => ?_, fun h => ?_, r.cupF, r.F0, r.Fn, fun a fa z => ?_, fun a o h n => ?_⟩, own2⟩
  · rcases set_at h with ⟨_, q, _⟩ | ⟨_, h⟩
    · cases q
    · obtain ⟨v, h1, h2⟩ := r.sh j d h
      exact ⟨v, h1, h2.keeps kp⟩
  · rcases set_at h with ⟨rfl, q, _⟩ | ⟨ne, h⟩
    · cases q
      exact ⟨c, es, m, nF, f⟩
    · obtain ⟨a, h1, o, n, f'⟩ := r.own j d h
      have nea : a ≠ c := fun z => ne (r.dist i j cd d c e h es (z ▸ h1))
      exact ⟨a, h1, o.keeps kp (fun u eu => k a u nea eu), n, f'⟩
  · have back : ∀ {l : Nat} {d : D}, (ρ.sl.set i (some (.own cd')))[l]? = some (some (.own d)) → ∃ d', ρ.sl[l]? = some (some (.own d')) := fun {l d} h => by
      rcases set_at h with ⟨rfl, _, _⟩ | ⟨_, h⟩
      · exact ⟨cd, e⟩
      · exact ⟨d, h⟩
    obtain ⟨d1', k1⟩ := back h1
    obtain ⟨d2', k2⟩ := back h2
    exact r.dist j l d1' d2' a k1 k2 h3 h4
  · obtain ⟨c', d, c1, c2, c3⟩ := r.cupT h
    by_cases h0 : i = 0
    · subst h0
      exact ⟨c', cd', c1, c2, List.getElem?_set_self hi⟩
    · exact ⟨c', d, c1, c2, by show (ρ.sl.set i _)[0]? = _; rw [List.getElem?_set_ne h0]; exact c3⟩
  · have ne : a ≠ c := fun z => nF (z ▸ fa)
    cases q : H a with
    | none => exact r.Fs a fa q
    | some o => rw [k a o ne q] at z; cases z
  · refine k a o (fun z => ?_) (r.base a o h n)
    subst z
    rcases f with f | f
    · rw [f] at h; cases h
    · exact n f
/-- behind a call that changed the list at c -/
theorem after_callC {i : Nat} {c : Addr} {cd cd' : D} {fr : Bool} {d : D} {v : V} (r : Rel g F ρ σ H) (e : ρ.sl[i]? = some (some (.own cd))) (es : σ[i]? = some (some (.ref c))) (k : ∀ b o, b ≠ c → H b = some o → H' b = some o)
    {Fc Fr : Rg} (hc : ∀ a, Fr a → Fc a ∨ H a = none) (hs : ∀ a, Fr a → H' a ≠ none) (nc : ¬ Fr c) (m : Mo g.K Fr H' cd' c) (inn : inner cd' = true) (res : RRes g.K Fr H H' d v fr) (lt : light fr d = true ∨ (∀ a, Fc a → F a) ∧ ∀ a, F a → Fr a) :
    ∃ F', EPo g F ρ σ H (wOf fr d) (ρ.own i cd') v F' H' := by
  obtain ⟨r0, shr⟩ := r.mutate e es k (m.inner inn)
  have own0 : OwnAt ρ σ c := ⟨i, cd, e, es⟩
  have hi := (List.getElem?_eq_some_iff.mp e).1
  have nw : ∀ a, Fr a → H a = none → ¬ OwnAt (ρ.own i cd') σ a ∧ g.H0 a = none ∧ H' a ≠ none := fun a f h => ⟨fun z => r.notOwnN h (shr a z), r.fresh0 h, hs a f⟩
  have key : ∀ {F' : Rg}, (∀ a, F a → F' a) → (∀ a, F' a → F a ∨ (Fr a ∧ H a = none)) → RRes g.K F' H H' d v fr → ∃ F', EPo g F ρ σ H (wOf fr d) (ρ.own i cd') v F' H' := fun {F'} m n res' => by
    have r1 : Rel g F' (ρ.own i cd') σ H' := r0.wider m fun a h => (n a h).imp id fun z => nw a z.1 z.2
    refine ⟨F', ⟨⟨⟨r1, m, fun b o h no => k b o (fun z => no (z ▸ own0)) h, fun b h => ?_, fun b h => ?_, fun b h => .inl (shr b h)⟩, fun j s h => ?_, shr⟩, ?_, fun a h => ?_⟩⟩
    · by_cases z : b = c
      · subst z
        obtain ⟨a, h1, mo, _⟩ := r0.own i cd' (List.getElem?_set_self hi)
        rw [es] at h1
        cases h1
        exact mo.there
      · cases q : H b with
        | none => exact absurd q h
        | some o => rw [k b o z q]; exact fun y => nomatch y
    · rcases n b h with z | ⟨_, z⟩
      · exact .inl z
      · exact .inr (.inl z)
    · by_cases z : i = j
      · subst z
        exact ⟨_, List.getElem?_set_self hi⟩
      · exact ⟨s, by show (ρ.sl.set i _)[j]? = _; rw [List.getElem?_set_ne z]; exact h⟩
    · cases fr with
      | false => exact res'
      | true =>
        obtain ⟨a, rfl, o, nF, hn⟩ := res'
        exact ⟨a, rfl, o, nF, fun z => r.notOwnN hn (shr a z), r.fresh0 hn⟩
    · cases fr with
      | false => obtain ⟨⟨_, z⟩, _⟩ := h; cases z
      | true =>
        obtain ⟨_, h⟩ := h
        obtain ⟨b, e, _, _, hn⟩ := res'
        rw [h] at e
        cases e
        exact hn
  rcases lt with lt | ⟨h1, h2⟩
  · refine key (F' := fun a => F a ∨ (Fr a ∧ H a = none)) (fun _ h => .inl h) (fun _ h => h) ?_
    cases fr with
    | false => exact Dt.imm res lt
    | true =>
      obtain ⟨a, e, o, n, hn⟩ := res
      exact ⟨a, e, o.inner lt, fun z => z.elim (fun z => r.Fs a z hn) (fun z => n z.1), hn⟩
  · exact key h2 (fun a h => (hc a h).elim (fun z => .inl (h1 a z)) fun z => .inr ⟨h, z⟩) res
end
section
variable {X : Cx} {k : Nat} {f : Addr} {fd : FuncData} {ps : List Str} {x : Str} {p pos : Pos} {e : Expr} {es : List Expr} {fs : DA} {sem : FC}
theorem callC_ok {g : G} (hg : g.K = X.K) {σ : St} {H : Hp} {Q : VK} (t : tE g (dCallC sem fs) σ H Q) : tCall (spC X.K sem) [] E0 (tA g fs) σ H Q := by
  obtain ⟨F, ρ, r, w, ρ', e, q⟩ := t
  obtain ⟨⟨ws, ρ1⟩, e1, e⟩ := Option.bind_eq_some_iff.mp e
  refine ⟨F, ρ, r, ws, ρ1, e1, fun vs H1 F1 p1 => ?_⟩
  show spC X.K sem (vs ++ []) H1 Q E0
  rw [List.append_nil]
  have r1 := p1.t.post.rel
  simp only at e
  split at e
  · rename_i i us
    split at e
    · rename_i cd hcd
      split at e
      · rename_i hnv
        obtain ⟨ds, e2, e⟩ := Option.bind_eq_some_iff.mp e
        obtain ⟨⟨⟨fr, d⟩, cd'⟩, e3, e⟩ := Option.bind_eq_some_iff.mp e
        split at e
        · rename_i hin
          obtain ⟨c, ec, mo, nF, _⟩ := r1.own i cd hcd
          cases p1 with
          | mk t rw new =>
          cases rw with
          | @cons v _ us' _ hv tl dn =>
          obtain ⟨ev, _⟩ := hv
          rw [ec] at ev
          cases ev
          -- the other arguments stand apart from c
          have apart : ∀ (j : Nat) (y : W), us[j]? = some y → us'[j]? = some (.ref c) → ¬ (ownV ρ1 σ y c ∨ frAt y (.ref c) c) := fun j y h1 h2 h3 => by
            obtain ⟨v', hv', hw'⟩ := tl.get h1
            rw [h2] at hv'
            cases hv'
            rcases h3 with ⟨l, d', rfl, h4, h5⟩ | ⟨⟨d', rfl⟩, _⟩
            · have hl : l ≠ i := of_decide_eq_true (List.all_eq_true.mp hnv _ (List.mem_of_getElem? h1))
              exact hl (r1.dist l i d' cd c h4 hcd h5 ec)
            · obtain ⟨b, eb, _, _, no, _⟩ := hw'
              cases eb
              exact no ⟨i, cd, hcd, ec⟩
          split at e
          · rename_i lt
            cases e
            refine ⟨c, us', fun b => F1 b ∨ ∃ (j : Nat) (y : W), us[j]? = some y ∧ us'[j]? = some (.ref b) ∧ (ownV ρ1 σ y b ∨ frAt y (.ref b) b), cd, ds, rfl, fun a h => ?_, fun h => ?_, hg ▸ mo.keeps ⟨fun _ h => .inl h, fun _ _ h => h, fun _ _ _ h => h, fun _ _ _ h => h⟩ (fun _ h => h), hg ▸ tl.dts r1 (fun _ h => .inl h) e2 (fun j y a h1 h2 h3 => .inr ⟨j, y, h1, h2, h3⟩), fr, d, cd', e3, fun v H' Fr m n s k mc nc res => ?_⟩
            · rcases h with h | ⟨j, y, h1, h2, h3 | h3⟩
              · exact r1.Fs a h
              · intro z
                obtain ⟨d, o, _⟩ := r1.ownObj h3.at
                exact o.there z
              · obtain ⟨v, hv, hw⟩ := tl.get h1
                rw [h2] at hv
                cases hv
                exact hw.frs h3
            · rcases h with h | ⟨j, y, h1, h2, h3⟩
              · exact nF h
              · exact apart j y h1 h2 h3
            · obtain ⟨F', ep⟩ := after_callC r1 hcd ec k n s nc (hg ▸ mc) hin (hg ▸ res) (.inl lt)
              exact q v H' F' (EPo.then r t ep)
          · obtain ⟨⟨ds', ρ2⟩, e4, e⟩ := Option.map_eq_some_iff.mp e
            cases e
            obtain ⟨F2, m2, n2, r2, d2, s2, pr2⟩ := gives_ok r1 tl e4
            have := gives_gets e4
            rw [e2] at this
            cases this
            have hcd2 : ρ2.sl[i]? = some (some (.own cd)) := (gives_slot hnv e4).trans hcd
            obtain ⟨c2, ec2, mo2, nF2, _⟩ := r2.own i cd hcd2
            rw [ec] at ec2
            cases ec2
            have t2 : TPo g F ρ σ H F2 ρ2 H1 := t.ghost r2 m2 (fun a h => by
              rcases n2 a h with z | z | ⟨j, y, u, z1, z2, z3⟩
              · exact .inl z
              · exact .inr (.inl z)
              · exact .inr (.inr (new (j + 1) y u a (by simpa using z1) (by simpa using z2) z3))) s2 pr2
            refine ⟨c, us', F2, cd, ds, rfl, r2.Fs, nF2, hg ▸ mo2, hg ▸ d2, fr, d, cd', e3, fun v H' Fr m n s k mc nc res => ?_⟩
            obtain ⟨F', ep⟩ := after_callC r2 hcd2 ec k n s nc (hg ▸ mc) hin (hg ▸ res) (.inr ⟨fun _ h => h, m⟩)
            exact q v H' F' (EPo.then r t2 ep)
        · cases e
      · cases e
    · cases e
  · cases e
theorem ped_callC (Fn : FnOk X.prog X.w X.K X.mg X.base CX0 k f fd ps (spC X.K sem)) (hr : Room k X.A) (hG : Gl X x) (hm : X.mg x = some (.ref f)) (hk : PySem.W.keepIn X.K (.ref f) = true) (hb : L2.Binds X.K fd ps []) (ha : PAD X (e :: es) fs)
    (hdb : (x == ("__debug__" : Str)) = false := by decide) (he : starEach (e :: es) X.env = (false, eval e X.env) :: starEach es X.env := by rfl) (hpl : (backTo pos (starEach es X.env)).any (·.1) = false := by rfl) :
    PED X (.Call (.Name x p) (e :: es) [] pos) (dCallC sem fs) := fun g hg => (pe_call Fn hr hG hm hk hb .nil pass0 (ha g hg) hdb he hpl).wk fun σ H Q t => callC_ok hg t
end
end PD
set_option Elab.async false
set_option linter.all false
set_option maxRecDepth 100000
set_option maxHeartbeats 4000000
/-! PDU: dict(pairs) where the keys are tuples. -/
namespace PD
set_option autoImplicit false
open PySem PySem.Spec L2
open PyProof.Rows hiding St

def mergedH (acc : List TE3) : List TE3 → List TE3
  | [] => acc
  | q :: r => mergedH (storedH acc q.1 q.2.1 q.2.2) r
theorem length_mergedH : ∀ (r acc : List TE3), (mergedH acc r).length ≤ acc.length + r.length
  | [], acc => Nat.le_refl _
  | q :: r, acc => by
    have a := length_mergedH r (storedH acc q.1 q.2.1 q.2.2)
    have b := length_storedH acc q.1 q.2.1 q.2.2
    rw [List.length_cons]
    show (mergedH (storedH acc q.1 q.2.1 q.2.2) r).length ≤ _
    omega
section
variable {prog : Program} {w : World} {A : Around} {E : Value → Shared → Prop}
theorem tkey_ext {h h' : Heap} {k : List Int} {a x : Addr} (t : IsTupleKey (intKind prog w) h k a) (ne : a ≠ x) (e : ∀ b o, b ≠ x → h.get? b = some o → h'.get? b = some o) : IsTupleKey (intKind prog w) h' k a := by
  obtain ⟨o, its, n, h1, h2⟩ := t
  exact ⟨o, its, n, e a o ne h1, h2⟩
theorem dictOfH_ext {h h' : Heap} {S x : Addr} {es : List TE3} (d : h.DictOfH (tkd prog w) S es) (ne : S ≠ x) (ke : ∀ q ∈ es, q.2.1 ≠ x) (e : ∀ b o, b ≠ x → h.get? b = some o → h'.get? b = some o) : h'.DictOfH (tkd prog w) S es := by
  obtain ⟨o, ens, ep, h1, h2, h3, h4, h5, h6⟩ := d
  exact ⟨o, ens, ep, e S o ne h1, h2, h3, h4, fun q hq => tkey_ext (h5 q hq) (ke q hq) e, h6⟩
theorem storedH_keys {es : List TE3} {k : List Int} {b : Addr} {u : Value} {x : Addr} (h : ∀ q ∈ es, q.2.1 ≠ x) (hb : b ≠ x) : ∀ q ∈ storedH es k b u, q.2.1 ≠ x := fun q hq => by
  unfold storedH at hq
  split at hq
  · obtain ⟨q0, h0, rfl⟩ := List.mem_map.mp hq
    unfold putAt
    split
    · exact h q0 h0
    · exact h q0 h0
  · rcases List.mem_append.mp hq with hq | hq
    · exact h q hq
    · cases List.mem_singleton.mp hq
      exact hb
theorem upd_loopT {R : Result → Shared → Prop} {S I l : Addr} {items : Array Value} {res : Value} (hh : A.handled = none) (hu : A.units + 1 < cLine) (hlI : l ≠ I) (hSI : S ≠ I) (hSl : S ≠ l) :
    ∀ (rest : List TE3) (i : Nat) (acc : List TE3) (ix : Int) (t : Tok) (s : Shared), items.size = i + rest.length → acc.length + rest.length ≤ sizeLine → (∀ q ∈ acc, q.2.1 ≠ I) →
      (∀ (j : Nat) (q : TE3), rest[j]? = some q → ∃ (b : Addr), items[i + j]? = some (.ref b) ∧ b ≠ S ∧ b ≠ I ∧ IsTup s.heap b #[.ref q.2.1, q.2.2] ∧ q.2.1 ≠ S ∧ q.2.1 ≠ I ∧ IsTupleKey (intKind prog w) s.heap q.1 q.2.1) →
      s.heap.IsListIter I l i → s.heap.IsList l items → s.heap.DictOfH (tkd prog w) S acc →
      (∀ h' tk, h'.DictOfH (tkd prog w) S (mergedH acc rest) → (∀ b o, b ≠ S → b ≠ I → s.heap.get? b = some o → h'.get? b = some o) → R (.ok (.ret res)) { s with heap := h', toks := tk }) →
      codeAny (model prog w) A (.builtin "dict.update.loop" ⟨[.ref S, .ref I, .int ix t, res], []⟩) R s
  | [], i, acc, ix, t, s, hsz, hln, hka, ht, hit, hl, hm, hR => by
    refine codeAny_builtin ud_entry ?_
    rw [Around.under_plainId ud_plain _]
    show wpAny _ A.in1 (pyNext (.ref I) >>= _) _ _ s
    refine wpAny_bind (wpAny_pyNext_list_end (A := A.in1) hh hit hl (by first | exact Array.getElem?_eq_none (Nat.le_of_eq hsz) | (simp at hsz; simp; omega)) fun h' he => ?_)
    show wpAny _ A.in1 (Builtin.Dict.addKeywords S [] >>= _) _ _ _
    refine wpAny_bind (wpAny_pure (wpAny_pure ?_))
    exact hR h' s.toks (dictOfH_ext hm hSI hka fun b o nb e => he b o nb e) fun b o _ hb e => he b o hb e
  | q :: rest, i, acc, ix, t, s, hsz, hln, hka, ht, hit, hl, hm, hR => by
    obtain ⟨b, hb, hbS, hbI, htup, hkS, hkI, hk⟩ := ht 0 q rfl
    rw [List.length_cons] at hsz hln
    refine codeAny_builtin ud_entry ?_
    rw [Around.under_plainId ud_plain _]
    show wpAny _ A.in1 (pyNext (.ref I) >>= _) _ _ s
    refine wpAny_bind (wpAny_pyNext_list_item (x := .ref b) hit hl (by simpa using hb) fun h1 hit1 hs1 => ?_)
    have ht1 : IsTup h1 b #[.ref q.2.1, q.2.2] := htup.extBut hs1.extBut hbI
    have hl1 : h1.IsList l items := hl.extBut hs1.extBut hlI
    have hm1 : h1.DictOfH (tkd prog w) S acc := dictOfH_ext hm hSI hka fun b o nb e => hs1.extBut b o nb e
    have hk1 : IsTupleKey (intKind prog w) h1 q.1 q.2.1 := tkey_ext hk hkI fun b o nb e => hs1.extBut b o nb e
    obtain ⟨o, ho, hc, n, hd⟩ := id ht1
    show wpAny _ A.in1 (holding [Value.ref b] _ >>= _) _ _ _
    refine wpAny_bind (wpAny_holding ?_)
    refine wpAny_bind (wpAny_tryCatch ?_)
    unfold Builtin.Dict.pairItems
    refine wpAny_bind (wpAny_typeOf (T := "tuple") ⟨o, ho, hc⟩ ?_)
    rw [if_pos (by first | decide | rfl | simp)]
    refine wpAny_bind (wpAny_seqItems ho hd (wpAny_pure ?_))
    show wpAny _ A.in1 (holding [.ref q.2.1, q.2.2] (dictSet S (.ref q.2.1) q.2.2)) _ _ _
    refine wpAny_holding (wpAny_dictSet_heap (knd := tkd prog w) (k := q.1) hu hk1 hm1 (fun h2 hm2 hs2 => ?_) (by omega))
    refine wpAny_pure ⟨plainId_quiet ud_plain _, upd_loopT (items := items) hh hu hlI hSI hSl rest (i + 1) (storedH acc q.1 q.2.1 q.2.2) (ix + 1) 0 _ (show items.size = i + 1 + rest.length by omega) ?_ (storedH_keys hka hkI) (fun j q' e => ?_) ?_ ?_ hm2 fun h' tk hd' k => ?_⟩
    · have z := length_storedH acc q.1 q.2.1 q.2.2
      omega
    · obtain ⟨b', hb', hbS', hbI', htup', hkS', hkI', hk'⟩ := ht (j + 1) q' (by simpa using e)
      refine ⟨b', ?_, hbS', hbI', (htup'.extBut hs1.extBut hbI').extBut hs2.extBut hbS', hkS', hkI', tkey_ext (tkey_ext hk' hkI' fun b o nb e => hs1.extBut b o nb e) hkS' fun b o nb e => hs2.extBut b o nb e⟩
      rw [show i + 1 + j = i + (j + 1) by omega]
      exact hb'
    · exact hit1.at fun o' e => hs2.extBut I o' (Ne.symm hSI) e
    · exact hl1.extBut hs2.extBut (Ne.symm hSl)
    · exact hR h' tk hd' fun c oc h3 h4 e => k c oc h3 h4 (hs2.extBut c oc h3 (hs1.extBut c oc h4 e))
theorem call_dict_pairsT {s : Shared} {l : Addr} {ol : Obj} {items : Array Value} {n : Nat} {prs : List TE3} {Q : Value → Shared → Prop} (hh : A.handled = none) (hu : A.in1.units + 1 < cLine) (hl : s.heap.get? l = some ol) (hc : ol.cls = .type "list") (hd : ol.dict = none)
    (hdat : ol.data = .seq items n) (hsz : items.size = prs.length) (hln : prs.length ≤ sizeLine)
    (ht : ∀ (j : Nat) (q : TE3), prs[j]? = some q → ∃ (b : Addr), items[j]? = some (.ref b) ∧ IsTup s.heap b #[.ref q.2.1, q.2.2] ∧ IsTupleKey (intKind prog w) s.heap q.1 q.2.1)
    (h : ∀ h' tk, h'.DictOfH (tkd prog w) s.heap.objs.size (mergedH [] prs) → (∀ b o, s.heap.get? b = some o → h'.get? b = some o) → Q (.ref s.heap.objs.size) { s with heap := h', toks := tk }) :
    wpAny (model prog w) A (call (.type "dict") [.ref l]) Q E s := by
  refine callType_codes (Q₁ := fun obj s₁ => obj = .ref s.heap.objs.size ∧ s₁ = { s with heap := s.heap.push { cls := .type "dict", data := .dict #[] } }) PySem.F.kt_called_dict (PySem.F.kt_typeCall_dict_1 _) PySem.F.entry_dict_init (kt_code_dict_new _ ⟨rfl, rfl⟩) ?_
  rintro obj s₁ ⟨rfl, rfl⟩
  have hnew : (s.heap.push { cls := .type "dict", data := .dict #[] }).DictOfH (tkd prog w) s.heap.objs.size [] := Heap.DictOfH.new s.heap
  have k0 : ∀ b o, s.heap.get? b = some o → (s.heap.push { cls := .type "dict", data := .dict #[] }).get? b = some o := fun b o e => Heap.get?_push_of_some _ e
  refine ⟨hnew.typeIs, PySem.F.args_dict_init_2 _ _, ?_⟩
  unfold Builtin.«dict.__init__»
  refine wpAny_bind ?_
  unfold Builtin.Dict.selfAndRest
  refine wpAny_bind (wpAny_notOrdered_dict hnew.typeIs ?_)
  show wpAny _ _ (pure (s.heap.objs.size, [Value.ref l])) _ _ _
  refine wpAny_pure ?_
  show wpAny _ _ (Builtin.Dict.updateFrom "dict.__init__" s.heap.objs.size (.ref l) [] .none) _ _ _
  unfold Builtin.Dict.updateFrom
  refine wpAny_bind (wpAny_typeOf (T := "list") ⟨ol, k0 _ _ hl, hc⟩ ?_)
  rw [if_pos (by first | decide | rfl | simp)]
  refine wpAny_bind (miss_list (k0 _ _ hl) hc hdat hd hh fun h1 tk1 hk1 => ?_)
  rw [if_pos (show (none : Option Value).isNone = true from rfl)]
  refine wpAny_bind (wpAny_rule ?_)
  have hl1 : h1.IsList l items := ⟨ol, hk1 _ _ (k0 _ _ hl), hc, n, hdat⟩
  have hS1 : s.heap.objs.size < h1.objs.size := by
    have e : (s.heap.push { cls := .type "dict", data := .dict #[] }).get? s.heap.objs.size = some { cls := .type "dict", data := .dict #[] } := Heap.get?_push_size _ rfl
    exact Heap.lt_size (hk1 _ _ e)
  refine wpAny_bind (wpAny_pyIter_list hl1 ?_)
  have k2 : ∀ b o, h1.get? b = some o → (h1.push { cls := .type "list_iterator", data := .fields #[.ref l, .int 0 0] }).get? b = some o := fun b o e => Heap.get?_push_of_some _ e
  have hlt : l < s.heap.objs.size := Heap.lt_size hl
  have all : ∀ b o, s.heap.get? b = some o → (h1.push { cls := .type "list_iterator", data := .fields #[.ref l, .int 0 0] }).get? b = some o := fun c o z => k2 _ _ (hk1 _ _ (k0 _ _ z))
  have key := upd_loopT (prog := prog) (w := w) (A := A.in1) (R := wants (fun r s₂ => r = .none ∧ Q (.ref s.heap.objs.size) s₂) E) (S := s.heap.objs.size) (I := h1.objs.size) (l := l) (items := items) (res := Value.none) hh hu
    (Nat.ne_of_lt (Nat.lt_trans hlt hS1)) (Nat.ne_of_lt hS1) (Nat.ne_of_gt hlt) prs 0 [] 0 0
    { s with heap := h1.push { cls := .type "list_iterator", data := .fields #[.ref l, .int 0 0] }, toks := tk1 } (by rw [hsz, Nat.zero_add]) (by rw [List.length_nil, Nat.zero_add]; exact hln) (fun q hq => nomatch hq)
    (fun j q e => by
      obtain ⟨b, e1, e2, e3⟩ := ht j q e
      have hb : b < s.heap.objs.size := e2.lt
      have hkb : q.2.1 < s.heap.objs.size := by obtain ⟨o, _, _, z, _⟩ := e3; exact Heap.lt_size z
      refine ⟨b, by rw [Nat.zero_add]; exact e1, Nat.ne_of_lt hb, Nat.ne_of_lt (Nat.lt_trans hb hS1), e2.keeps all, Nat.ne_of_lt hkb, Nat.ne_of_lt (Nat.lt_trans hkb hS1), ?_⟩
      obtain ⟨o, its, m, z1, z2⟩ := e3
      exact ⟨o, its, m, all _ _ z1, z2⟩)
    ⟨_, Heap.get?_push_size _ rfl, rfl, rfl⟩ (hl1.at fun o e => k2 _ _ e) (by
      obtain ⟨o, ens, ep, z1, z2, z3, z4, _, z6⟩ := hnew
      exact ⟨o, ens, ep, k2 _ _ (hk1 _ _ z1), z2, z3, z4, (fun q hq => (by simp at hq)), z6⟩)
    (fun h' tk hd' k => ⟨rfl, h h' tk hd' fun b o e => k b o (Nat.ne_of_lt (Heap.lt_size e)) (Nat.ne_of_lt (Nat.lt_trans (Heap.lt_size e) hS1)) (all _ _ e)⟩)
  first
    | exact wpAny_pure ⟨plainId_quiet ud_plain _, key⟩
    | exact wpAny_bind (wpAny_pure (wpAny_pure ⟨plainId_quiet ud_plain _, key⟩))
end
section
variable {X : Cx}
/-- pairs of a tuple and a value: at p stands the pair, at q.2.1 the tuple -/
theorem pairs_ofT {pins : List (Addr × Obj)} {σ : St} {H : Hp} {s : Shared} (I : Inv X pins σ H s) : ∀ {ps : List Addr} {kvs : List (List Int × Addr × V)}, Paired (fun p (kv : List Int × Addr × V) => SqT X.K H p [.ref kv.2.1, kv.2.2] ∧ SqT X.K H kv.2.1 (kv.1.map V.int)) ps kvs →
    ∃ prs : List TE3, Paired (fun (kv : List Int × Addr × V) (q : TE3) => kv.1 = q.1 ∧ kv.2.1 = q.2.1 ∧ RelV kv.2.2 q.2.2) kvs prs ∧ prs.length = ps.length ∧
      ∀ (j : Nat) (q : TE3), prs[j]? = some q → ∃ b, ps[j]? = some b ∧ IsTup s.heap b #[.ref q.2.1, q.2.2] ∧ IsTupleKey (intKind X.prog X.w) s.heap q.1 q.2.1
  | _, _, .nil => ⟨[], .nil, rfl, fun j q e => by simp at e⟩
  | _, _, .cons (a := p) (b := kv) h t => by
    obtain ⟨prs, r, hl, hp⟩ := pairs_ofT I t
    obtain ⟨its, rv, ht, _⟩ := I.tuple h.1
    obtain ⟨u, y, ei, ru, ry⟩ := vals2 rv
    subst ei
    cases (show u = Value.ref kv.2.1 from ru)
    refine ⟨(kv.1, kv.2.1, y) :: prs, .cons ⟨rfl, rfl, ry⟩ r, by rw [List.length_cons, List.length_cons, hl], fun j q e => ?_⟩
    cases j with
    | zero =>
      have e' : (kv.1, kv.2.1, y) = q := Option.some.inj e
      subst e'
      exact ⟨p, rfl, ht, tkey I h.2⟩
    | succ j =>
      obtain ⟨b, e1, e2, e3⟩ := hp j q (by simpa using e)
      exact ⟨b, by simpa using e1, e2, e3⟩
theorem call_dictPT (hcalm : X.calm = true) (hu : X.A.in1.units + 1 < cLine) : CallR X (.type "dict") (fun xs H Q => ∃ (a : Addr) (ps : List Addr) (kvs : List (List Int × Addr × V)), xs = [.ref a] ∧ SqL X.K H a (ps.map V.ref) ∧
    Paired (fun p (kv : List Int × Addr × V) => SqT X.K H p [.ref kv.2.1, kv.2.2] ∧ SqT X.K H kv.2.1 (kv.1.map V.int)) ps kvs ∧
    ∀ (p : Addr) (prs : List TE3), H p = none → Paired (fun (kv : List Int × Addr × V) (q : TE3) => kv.1 = q.1 ∧ kv.2.1 = q.2.1 ∧ RelV kv.2.2 q.2.2) kvs prs → Q (.ref p) (upd H p (tdO p (mergedH [] prs)))) := by
  intro pins s σ H xs us Q I r q
  obtain ⟨a, ps, kvs, ex, hq, hp, q⟩ := q
  subst ex
  obtain ⟨u, eu, rx⟩ := vals1 r
  subst eu
  cases rx
  obtain ⟨its, rv, pl, hz⟩ := I.list hq
  have ei := refs_at rv
  subst ei
  rw [List.length_map] at hz
  obtain ⟨prs, rel, hl, hpr⟩ := pairs_ofT I hp
  obtain ⟨o, n, ho, hc, hd, hdat⟩ := pl
  refine call_dict_pairsT (prs := prs) (I.ok.hd hcalm) hu ho hc hd hdat (by simp [hl]) (by rw [hl]; exact hz) (fun j q' e => ?_) fun h' tk hd' k => ?_
  · obtain ⟨b, e1, e2, e3⟩ := hpr j q' e
    exact ⟨b, by simp [e1], e2, e3⟩
  · have hm : (s.heap.objs.size == sysModules) = false := beq_eq_false_iff_ne.mpr (Nat.ne_of_gt I.big)
    have hlen : (mergedH [] prs).length ≤ sizeLine := by
      refine Nat.le_trans (length_mergedH prs []) ?_
      rw [List.length_nil, Nat.zero_add, hl]
      exact hz
    exact ⟨.ref s.heap.objs.size, upd H s.heap.objs.size (tdO s.heap.objs.size (mergedH [] prs)), I.laid (t' := tk) k (Nat.le_refl _) (td_new hlen hm hd'), rfl, q _ prs (I.hok.fresh (Nat.le_refl _)) rel⟩
end
end PD
set_option Elab.async false
set_option linter.all false
set_option maxRecDepth 100000
set_option maxHeartbeats 4000000
/-! PD12: built-ins and methods over data; stores into lists. -/
namespace PD
set_option autoImplicit false
open PySem PySem.Spec L2
open PyProof.Rows hiding St

/-! ### a built-in of one argument, of two -/
structure B1 (X : Cx) (f : Value) (sem : D → Option W) : Prop where
  ex : ∃ r, CallR X f r ∧ ∀ (F : Rg) (H : Hp) (a : D) (va : V) (w : W) (Q : VK), Dtop X.K F H a va → sem a = some w → (∀ v H', NewR X.K F H v H' w → Q v H') → r [va] H Q
structure B2 (X : Cx) (f : Value) (sem : D → D → Option W) : Prop where
  ex : ∃ r, CallR X f r ∧ ∀ (F : Rg) (H : Hp) (a b : D) (va vb : V) (w : W) (Q : VK), Dtop X.K F H a va → Dtop X.K F H b vb → sem a b = some w → (∀ v H', NewR X.K F H v H' w → Q v H') → r [va, vb] H Q
def dB1 (sem : D → Option W) (fa : DE) : DE := fun ρ => (fa ρ).bind fun x => (x.1.get x.2).bind fun a => (sem a).map fun w => (w, x.2)
section
variable {X : Cx} {p pos : Pos} {x : Str} {id T : String} {a b : Expr} {fa fb : DE} {sem1 : D → Option W} {sem2 : D → D → Option W}
theorem one {g : G} (hg : g.K = X.K) {r : List V → Hp → VK → Prop} (hq : ∀ (F : Rg) (H : Hp) (a : D) (va : V) (w : W) (Q : VK), Dtop X.K F H a va → sem1 a = some w → (∀ v H', NewR X.K F H v H' w → Q v H') → r [va] H Q)
    {σ : St} {H : Hp} {Q : VK} (t : tE g (dB1 sem1 fa) σ H Q) : tCB r (tCons (tE g fa) tNil) σ H Q := by
  obtain ⟨F, ρ, r0, w, ρ', e, q⟩ := t
  obtain ⟨⟨x, ρ1⟩, e1, e⟩ := Option.bind_eq_some_iff.mp e
  obtain ⟨da, e3, e⟩ := Option.bind_eq_some_iff.mp e
  obtain ⟨w', e5, e⟩ := Option.map_eq_some_iff.mp e
  cases e
  exact ⟨F, ρ, r0, x, ρ1, e1, fun v H1 F1 p1 => hq F1 H1 da v w Q (hg ▸ RW.top p1.t.post.rel p1.rw e3) e5 fun v' H' n => q v' H' F1 (EPo.then r0 p1.t ((hg ▸ n : NewR g.K F1 H1 v' H' w).epo p1.t.post.rel))⟩
theorem ped_b1 (hb : B1 X (.builtin id) sem1) (hG : Gl X x) (hm : X.mg x = none) (hv : bootBuiltins x = some (.builtin id)) (ha : PED X a fa) (hn : x ≠ "__name__" := by decide) (hdb : (x == ("__debug__" : Str)) = false := by decide)
    (he : starEach [a] X.env = (false, eval a X.env) :: starEach [] X.env := by rfl) : PED X (.Call (.Name x p) [a] [] pos) (dB1 sem1 fa) := fun g hg => by
  obtain ⟨r, hr, hq⟩ := hb.ex
  exact (pe_callB hr hG hm hv (pa_cons (ha g hg) pa_nil he) hn hdb he).wk fun σ H Q t => one hg hq t
theorem ped_t1 (hb : B1 X (.type T) sem1) (hG : Gl X x) (hm : X.mg x = none) (hv : bootBuiltins x = some (.type T)) (ha : PED X a fa) (hn : x ≠ "__name__" := by decide) (hdb : (x == ("__debug__" : Str)) = false := by decide)
    (he : starEach [a] X.env = (false, eval a X.env) :: starEach [] X.env := by rfl) : PED X (.Call (.Name x p) [a] [] pos) (dB1 sem1 fa) := fun g hg => by
  obtain ⟨r, hr, hq⟩ := hb.ex
  exact (pe_callTy hr hG hm hv (pa_cons (ha g hg) pa_nil he) hn hdb he).wk fun σ H Q t => one hg hq t
theorem ped_b2 (hb : B2 X (.builtin id) sem2) (hG : Gl X x) (hm : X.mg x = none) (hv : bootBuiltins x = some (.builtin id)) (ha : PED X a fa) (hb' : PED X b fb) (hn : x ≠ "__name__" := by decide) (hdb : (x == ("__debug__" : Str)) = false := by decide)
    (he : starEach [a, b] X.env = (false, eval a X.env) :: starEach [b] X.env := by rfl) (he2 : starEach [b] X.env = (false, eval b X.env) :: starEach [] X.env := by rfl) (hpl : (backTo pos (starEach [b] X.env)).any (·.1) = false := by rfl) : PED X (.Call (.Name x p) [a, b] [] pos) (dBin sem2 fa fb) := fun g hg => by
  obtain ⟨r, hr, hq⟩ := hb.ex
  refine (pe_callB hr hG hm hv (pa_cons (ha g hg) (pa_cons (hb' g hg) pa_nil he2) he) hn hdb he hpl).wk fun σ H Q t => ?_
  exact two t fun F ρ H2 da db va vb w r2 ta tb e q => hq F H2 da db va vb w Q (hg ▸ ta) (hg ▸ tb) e fun v H' n => q v H' (hg ▸ n)
end

def bLen : D → Option W
  | .list xs => some (.sh (.int xs.length))
  | .tuple xs => some (.sh (.int xs.length))
  | .str x => if x.length ≤ 16777216 then some (.sh (.int x.length)) else none
  | .dict kvs => some (.sh (.int (if isT kvs = true then kvs.tail.length else kvs.length)))
  | _ => none
def bAbs : D → Option W
  | .int i => some (.sh (.int (if i < 0 then -i else i)))
  | _ => none
def bInt : D → Option W
  | .int i => some (.sh (.int i))
  | .bool b => some (.sh (.int (if b then 1 else 0)))
  | _ => none
def bSum : D → Option W
  | .list xs => (ints? xs).map fun ns => .sh (.int ns.sum)
  | .tuple xs => (ints? xs).map fun ns => .sh (.int ns.sum)
  | _ => none
def imax (n : Int) (ns : List Int) : Int := ns.foldl (fun m k => if m < k then k else m) n
def imin (n : Int) (ns : List Int) : Int := ns.foldl (fun m k => if k < m then k else m) n
def bMax : D → Option W
  | .list xs => (ints? xs).bind fun ns => match ns with
    | [] => none
    | n :: ns => some (.sh (.int (imax n ns)))
  | _ => none
def bMin : D → Option W
  | .list xs => (ints? xs).bind fun ns => match ns with
    | [] => none
    | n :: ns => some (.sh (.int (imin n ns)))
  | _ => none
def bMax2 : D → D → Option W
  | .int i, .int j => some (.sh (.int (if j > i then j else i)))
  | _, _ => none
def bMin2 : D → D → Option W
  | .int i, .int j => some (.sh (.int (if j < i then j else i)))
  | _, _ => none
def bools? : List D → Option (List Bool)
  | [] => some []
  | .bool b :: r => (bools? r).map (b :: ·)
  | _ => none
def bAll : D → Option W
  | .list xs => (bools? xs).map fun bs => .sh (.bool (bs.all id))
  | _ => none
def bAny : D → Option W
  | .list xs => (bools? xs).map fun bs => .sh (.bool (bs.any id))
  | _ => none
def bList : D → Option W
  | .list xs => some (.fr (.list xs))
  | .tuple xs => some (.fr (.list xs))
  | _ => none
def bTuple : D → Option W
  | .list xs => some (.sh (.tuple xs))
  | .tuple xs => some (.sh (.tuple xs))
  | _ => none

theorem bools?_some : ∀ {ds : List D} {ns : List Bool}, bools? ds = some ns → ds = ns.map PyData.bool
  | [], _, h => by cases h; rfl
  | .bool i :: r, ns, h => by
    obtain ⟨ms, e1, e2⟩ := Option.map_eq_some_iff.mp h
    rw [bools?_some e1, ← e2]
    rfl
  | .none :: _, _, h => by cases h
  | .int _ :: _, _, h => by cases h
  | .str _ :: _, _, h => by cases h
  | .list _ :: _, _, h => by cases h
  | .tuple _ :: _, _, h => by cases h
  | .dict _ :: _, _, h => by cases h
theorem bools?_map : ∀ ns : List Bool, bools? (ns.map PyData.bool) = some ns
  | [] => rfl
  | n :: ns => by rw [List.map_cons, bools?, bools?_map ns]; rfl
theorem imax_ge : ∀ (ns : List Int) (n : Int), n ≤ imax n ns ∧ (∀ k ∈ ns, k ≤ imax n ns) ∧ imax n ns ∈ n :: ns
  | [], n => ⟨Int.le_refl _, fun k h => (by simp at h), by simp [imax]⟩
  | k :: ns, n => by
    obtain ⟨h1, h2, h3⟩ := imax_ge ns (if n < k then k else n)
    have e : imax n (k :: ns) = imax (if n < k then k else n) ns := rfl
    rw [e]
    refine ⟨?_, fun j hj => ?_, ?_⟩
    · split at h1 <;> rename_i hh <;> simp only [hh, if_true, if_false] <;> omega
    · rcases List.mem_cons.mp hj with rfl | hj
      · split at h1 <;> rename_i hh <;> simp only [hh, if_true, if_false] <;> omega
      · exact h2 j hj
    · rcases List.mem_cons.mp h3 with h3 | h3
      · rw [h3]
        split <;> simp
      · exact List.mem_cons_of_mem _ (List.mem_cons_of_mem _ h3)
theorem imin_le : ∀ (ns : List Int) (n : Int), imin n ns ≤ n ∧ (∀ k ∈ ns, imin n ns ≤ k) ∧ imin n ns ∈ n :: ns
  | [], n => ⟨Int.le_refl _, fun k h => (by simp at h), by simp [imin]⟩
  | k :: ns, n => by
    obtain ⟨h1, h2, h3⟩ := imin_le ns (if k < n then k else n)
    have e : imin n (k :: ns) = imin (if k < n then k else n) ns := rfl
    rw [e]
    refine ⟨?_, fun j hj => ?_, ?_⟩
    · split at h1 <;> rename_i hh <;> simp only [hh, if_true, if_false] <;> omega
    · rcases List.mem_cons.mp hj with rfl | hj
      · split at h1 <;> rename_i hh <;> simp only [hh, if_true, if_false] <;> omega
      · exact h2 j hj
    · rcases List.mem_cons.mp h3 with h3 | h3
      · rw [h3]
        split <;> simp
      · exact List.mem_cons_of_mem _ (List.mem_cons_of_mem _ h3)

section
variable {X : Cx}
theorem call_len_dict : CallR X (.builtin "len") (fun xs H Q => ∃ a kvs, xs = [V.ref a] ∧ Rd H a (.dK kvs) ∧ Q (.int kvs.length) H) := by
  intro pins s σ H xs us Q I r ⟨a, kvs, hx, hr, q⟩
  subst hx
  obtain ⟨u, hu, ru⟩ := vals1 r
  subst hu
  cases ru
  exact d_len I hr fun t s' I' => ⟨.int _, H, I', ⟨t, rfl⟩, q⟩
theorem b1_len : B1 X (.builtin "len") bLen := by
  refine ⟨_, call_len_seq.or (call_len_str.or (call_len_dict.or call_len_td)), fun F H a va w Q ha e q => ?_⟩
  unfold bLen at e
  split at e
  · cases e
    obtain ⟨l, xs, rfl, h1, d1⟩ := ha
    exact .inl ⟨l, xs, rfl, .inl (.inl h1), by rw [← d1.length]; exact q _ _ (.val (.int _))⟩
  · cases e
    obtain ⟨l, xs, rfl, h1, d1⟩ := ha.tup_inv
    exact .inl ⟨l, xs, rfl, .inr h1, by rw [← d1.length]; exact q _ _ (.val (.int _))⟩
  · split at e
    · rename_i hz
      cases e
      cases ha.str_inv
      exact .inr (.inl ⟨_, rfl, by rw [sizeLine_eq]; exact hz, q _ _ (.val (.int _))⟩)
    · cases e
  · cases e
    rename_i kvs
    by_cases hT : isT kvs = true
    · obtain ⟨l, ks, rfl, h1, d1⟩ := ha.dit hT
      exact .inr (.inr (.inr ⟨l, ks, rfl, h1, d1.keys, by rw [if_pos hT] at q; rw [← d1.length]; exact q _ _ (.val (.int _))⟩))
    · obtain ⟨l, ks, rfl, h1, d1⟩ := ha.dik (by simpa using hT)
      exact .inr (.inr (.inl ⟨l, ks, rfl, h1, by rw [if_neg hT] at q; rw [← d1.length]; exact q _ _ (.val (.int _))⟩))
  · cases e
theorem b1_abs : B1 X (.builtin "abs") bAbs := by
  refine ⟨_, call_abs, fun F H a va w Q ha e q => ?_⟩
  unfold bAbs at e
  split at e
  · cases e
    cases ha.int_inv
    exact ⟨_, rfl, q _ _ (.val (.int _))⟩
  · cases e
theorem b1_int : B1 X (.type "int") bInt := by
  refine ⟨_, call_int1, fun F H a va w Q ha e q => ?_⟩
  unfold bInt at e
  split at e
  · cases e
    cases ha.int_inv
    exact .inl ⟨_, rfl, q _ _ (.val (.int _))⟩
  · cases e
    cases ha.bool_inv
    exact .inr ⟨_, rfl, q _ _ (.val (.int _))⟩
  · cases e
/-- a sum over a tuple -/
theorem sum_tuple {prog : Program} {w : World} {A : Around} {E : Value → Shared → Prop} {s : Shared} {l : Addr} {its : List Value} {ns : List Int} {Q : Value → Shared → Prop} (hh : A.handled = none) (hl : s.heap.IsTuple l its.toArray) (hi : IntsAre its ns)
    (h : ∀ h' tk t', (∀ b o, s.heap.get? b = some o → h'.get? b = some o) → Q (.int ns.sum t') { s with heap := h', toks := tk }) : wpAny (model prog w) A (call (.builtin "sum") [.ref l]) Q E s := by
  have hlt : l < s.heap.objs.size := by obtain ⟨o, ho, _⟩ := hl; exact Heap.lt_size ho
  refine call_sum_walkG (wpAny_pyIter_tuple hl ?_)
  have ne : l ≠ s.heap.objs.size := Nat.ne_of_lt hlt
  refine ⟨s.heap.objs.size, _, _, _, _, _, fun i => ns.getD i 0, rfl, Walks.tuple (A := A.in1) hh s.heap.objs.size l ne its.toArray, ⟨⟨_, Heap.get?_push_size _ rfl, rfl, rfl⟩, hl.at fun o e => Heap.get?_push_of_some _ e⟩, fun b hb => ?_, fun i v hv => ?_, fun h' tk t' hk => ?_⟩
  · have e' : b = s.heap.objs.size ∨ b = l := by simpa using hb
    show b < (s.heap.push _).objs.size
    rw [Heap.size_push]
    rcases e' with z | z
    · subst z; exact Nat.lt_succ_self _
    · subst z; exact Nat.lt_succ_of_lt hlt
  · exact PyProof.Rows.IntsAre.int_at hi i v (by simpa using hv)
  · have hn : its.toArray.size = ns.length := by rw [List.size_toArray]; exact hi.length
    have hs : preSum (fun i => ns.getD i 0) ns.length = ns.sum := by
      have key : ∀ (k : Nat), k ≤ ns.length → preSum (fun i => ns.getD i 0) k = (ns.take k).sum := by
        intro k
        induction k with
        | zero => intro _; rfl
        | succ k ih =>
          intro hk
          rw [PyProof.Rows.take_sum_succ ns k (by omega), ← ih (by omega)]
          rfl
      rw [key _ (Nat.le_refl _), List.take_length]
    have fin := h h' tk t' fun b o e => hk b o (fun z => by
      have hb : b = s.heap.objs.size := by simpa using z
      subst hb
      rw [Heap.get?_none_of_le (Nat.le_refl _)] at e
      cases e) (Heap.get?_push_of_some _ e)
    rw [hn, hs]
    exact fin
theorem call_sum_tup (hc : X.calm = true) : CallR X (.builtin "sum") (fun vs H Q => ∃ (a : Addr) (ns : List Int), vs = [V.ref a] ∧ SqT X.K H a (ns.map V.int) ∧ Q (.int ns.sum) H) := by
  intro pins s σ H xs us Q I r ⟨a, ns, hx, ht, q⟩
  subst hx
  obtain ⟨u, hu, ru⟩ := vals1 r
  subst hu
  cases ru
  obtain ⟨its, rv, pl, _⟩ := I.tuple ht
  exact sum_tuple (I.ok.hd hc) pl (Vals.ints rv) fun h' tk t' hk => ⟨.int _, H, I.kept (t' := tk) hk, ⟨t', rfl⟩, q⟩
theorem b1_sum (hc : X.calm = true) : B1 X (.builtin "sum") bSum := by
  refine ⟨_, (cr_sum hc).or (call_sum_tup hc), fun F H a va w Q ha e q => ?_⟩
  unfold bSum at e
  split at e
  · obtain ⟨ns, e1, rfl⟩ := Option.map_eq_some_iff.mp e
    obtain ⟨l, xs, rfl, h1, d1⟩ := ha
    rw [ints?_some e1] at d1
    rw [d1.ints] at h1
    exact .inl ⟨l, ns, rfl, .inl h1, q _ _ (.val (.int _))⟩
  · obtain ⟨ns, e1, rfl⟩ := Option.map_eq_some_iff.mp e
    obtain ⟨l, xs, rfl, h1, d1⟩ := ha.tup_inv
    rw [ints?_some e1] at d1
    rw [d1.ints] at h1
    exact .inr ⟨l, ns, rfl, h1, q _ _ (.val (.int _))⟩
  · cases e
theorem b1_max (hc : X.calm = true) : B1 X (.builtin "max") bMax := by
  refine ⟨_, cr_max hc, fun F H a va w Q ha e q => ?_⟩
  unfold bMax at e
  split at e
  · obtain ⟨ns, e1, e⟩ := Option.bind_eq_some_iff.mp e
    cases ns with
    | nil => cases e
    | cons n ns =>
      cases e
      obtain ⟨l, xs, rfl, h1, d1⟩ := ha
      rw [ints?_some e1] at d1
      rw [d1.ints] at h1
      refine ⟨l, n :: ns, rfl, .inl h1, by simp, fun m hm hb => ?_⟩
      obtain ⟨z1, z2, z3⟩ := imax_ge ns n
      have e2 : m = imax n ns := by
        have y1 := hb _ z3
        rcases List.mem_cons.mp hm with y2 | y2
        · rw [y2] at y1 ⊢; omega
        · have := z2 m y2; omega
      rw [e2]
      exact q _ _ (.val (.int _))
  · cases e
theorem b1_min (hc : X.calm = true) : B1 X (.builtin "min") bMin := by
  refine ⟨_, cr_min hc, fun F H a va w Q ha e q => ?_⟩
  unfold bMin at e
  split at e
  · obtain ⟨ns, e1, e⟩ := Option.bind_eq_some_iff.mp e
    cases ns with
    | nil => cases e
    | cons n ns =>
      cases e
      obtain ⟨l, xs, rfl, h1, d1⟩ := ha
      rw [ints?_some e1] at d1
      rw [d1.ints] at h1
      refine ⟨l, n :: ns, rfl, .inl h1, by simp, fun m hm hb => ?_⟩
      obtain ⟨z1, z2, z3⟩ := imin_le ns n
      have e2 : m = imin n ns := by
        have y1 := hb _ z3
        rcases List.mem_cons.mp hm with y2 | y2
        · rw [y2] at y1 ⊢; omega
        · have := z2 m y2; omega
      rw [e2]
      exact q _ _ (.val (.int _))
  · cases e
theorem b2_max (hc : X.calm = true) : B2 X (.builtin "max") bMax2 := by
  refine ⟨_, call_max2 hc, fun F H a b va vb w Q ha hb e q => ?_⟩
  unfold bMax2 at e
  split at e
  · cases e
    cases ha.int_inv
    cases hb.int_inv
    exact ⟨_, _, rfl, q _ _ (.val (.int _))⟩
  · cases e
theorem b2_min (hc : X.calm = true) : B2 X (.builtin "min") bMin2 := by
  refine ⟨_, call_min2 hc, fun F H a b va vb w Q ha hb e q => ?_⟩
  unfold bMin2 at e
  split at e
  · cases e
    cases ha.int_inv
    cases hb.int_inv
    exact ⟨_, _, rfl, q _ _ (.val (.int _))⟩
  · cases e
theorem b1_all (hc : X.calm = true) : B1 X (.builtin "all") bAll := by
  refine ⟨_, cr_all hc, fun F H a va w Q ha e q => ?_⟩
  unfold bAll at e
  split at e
  · obtain ⟨ns, e1, rfl⟩ := Option.map_eq_some_iff.mp e
    obtain ⟨l, xs, rfl, h1, d1⟩ := ha
    rw [bools?_some e1] at d1
    rw [d1.bools] at h1
    exact ⟨l, ns, rfl, .inl h1, q _ _ (.val (.bl _))⟩
  · cases e
theorem b1_any (hc : X.calm = true) : B1 X (.builtin "any") bAny := by
  refine ⟨_, cr_any hc, fun F H a va w Q ha e q => ?_⟩
  unfold bAny at e
  split at e
  · obtain ⟨ns, e1, rfl⟩ := Option.map_eq_some_iff.mp e
    obtain ⟨l, xs, rfl, h1, d1⟩ := ha
    rw [bools?_some e1] at d1
    rw [d1.bools] at h1
    exact ⟨l, ns, rfl, .inl h1, q _ _ (.val (.bl _))⟩
  · cases e
theorem b1_list : B1 X (.type "list") bList := by
  refine ⟨_, call_list_of, fun F H a va w Q ha e q => ?_⟩
  unfold bList at e
  split at e
  · cases e
    obtain ⟨l, xs, rfl, h1, d1⟩ := ha
    exact ⟨l, xs, rfl, .inl (.inl h1), fun p hp => q _ _ (.lst hp d1)⟩
  · cases e
    obtain ⟨l, xs, rfl, h1, d1⟩ := ha.tup_inv
    exact ⟨l, xs, rfl, .inr h1, fun p hp => q _ _ (.lst hp d1)⟩
  · cases e
theorem b1_tuple : B1 X (.type "tuple") bTuple := by
  refine ⟨_, call_tuple_of, fun F H a va w Q ha e q => ?_⟩
  unfold bTuple at e
  split at e
  · cases e
    obtain ⟨l, xs, rfl, h1, d1⟩ := ha
    exact ⟨l, xs, rfl, .inl ⟨.inl h1, fun p hp => q _ _ (.tup hp d1)⟩⟩
  · cases e
    obtain ⟨l, xs, rfl, h1, d1⟩ := ha.tup_inv
    exact ⟨l, xs, rfl, .inr ⟨h1, q _ _ (.val (.tup h1 d1))⟩⟩
  · cases e
end

/-! ### dict of pairs -/
/-- a key put into pairs -/
def dPut (kvs : List (D × D)) (k : Key) (d : D) : List (D × D) :=
  if kvs.any (fun p => decide (kOf p.1 = some k)) then kvs.map (fun p => if kOf p.1 = some k then (p.1, d) else p) else kvs ++ [(kD k, d)]
def dMerge (acc : List (D × D)) : List (Key × D) → List (D × D)
  | [] => acc
  | (k, d) :: r => dMerge (dPut acc k d) r
/-- pairs of a key and a datum -/
def pairs? : List D → Option (List (Key × D))
  | [] => some []
  | .tuple [k, d] :: r => (kOf k).bind fun k' => (pairs? r).map fun r' => (k', d) :: r'
  | _ => none
/-- a tuple put into pairs -/
def tPut (kvs : List (D × D)) (k : List Int) (d : D) : List (D × D) :=
  if kvs.any (fun p => decide (tOf p.1 = some k)) then kvs.map (fun p => if tOf p.1 = some k then (p.1, d) else p) else kvs ++ [(.tuple (k.map .int), d)]
def tMerge (acc : List (D × D)) : List (List Int × D) → List (D × D)
  | [] => acc
  | (k, d) :: r => tMerge (tPut acc k d) r
def tpairs? : List D → Option (List (List Int × D))
  | [] => some []
  | .tuple [k, d] :: r => (tOf k).bind fun k' => (tpairs? r).map fun r' => (k', d) :: r'
  | _ => none
/-- a dict of tuples, as data -/
abbrev tD (kvs : List (D × D)) : D := .dict ((.none, .none) :: kvs)
def bDict : D → Option W
  | .list xs => match pairs? xs with
    | some ps => if ps.length ≤ 16777216 then some (.fr (.dict (dMerge [] ps))) else none
    | none => (tpairs? xs).map fun ps => .fr (tD (tMerge [] ps))
  | _ => none
section
variable {K : PySem.W.Frag} {F : Rg} {H : Hp}
theorem kOf_iff {k k' : Key} : (kOf (kD k') = some k) ↔ (k' = k) := by
  rw [kOf_kD]
  exact ⟨fun h => Option.some.inj h, fun h => by rw [h]⟩
theorem Dkv.any (k : Key) : ∀ {kvs : List (D × D)} {ks : List (Key × V)}, Dkv K F H kvs ks → kvs.any (fun p => decide (kOf p.1 = some k)) = ks.any (fun kv => decide (kv.1 = k))
  | _, _, .nil => rfl
  | _, _, .cons (k := k') h t => by
    rw [List.any_cons, List.any_cons, Dkv.any k t]
    congr 1
    exact decide_eq_decide.mpr kOf_iff
theorem Dkv.append : ∀ {kvs ls : List (D × D)} {ks ms : List (Key × V)}, Dkv K F H kvs ks → Dkv K F H ls ms → Dkv K F H (kvs ++ ls) (ks ++ ms)
  | _, _, _, _, .nil, s => s
  | _, _, _, _, .cons h t, s => .cons h (Dkv.append t s)
theorem Dkv.swap {d : D} {v : V} (h : Dt K F H d v) (k : Key) : ∀ {kvs : List (D × D)} {ks : List (Key × V)}, Dkv K F H kvs ks → Dkv K F H (kvs.map (fun p => if kOf p.1 = some k then (p.1, d) else p)) (ks.map fun kv => if kv.1 = k then (kv.1, v) else kv)
  | _, _, .nil => .nil
  | _, _, .cons (k := k') h' t => by
    have t' := Dkv.swap h k t
    rw [List.map_cons, List.map_cons]
    by_cases e : k' = k
    · rw [if_pos (kOf_iff.mpr e), if_pos e]
      exact .cons h t'
    · rw [if_neg (fun z => e (kOf_iff.mp z)), if_neg e]
      exact .cons h' t'
theorem Dkv.put {d : D} {v : V} (h : Dt K F H d v) (k : Key) {kvs : List (D × D)} {ks : List (Key × V)} (t : Dkv K F H kvs ks) : Dkv K F H (dPut kvs k d) (putK ks k v) := by
  unfold dPut putK
  rw [t.any k]
  split
  · exact t.swap h k
  · exact t.append (.cons h .nil)
theorem Dkv.merge : ∀ {ps : List (Key × D)} {rs : List (Key × V)} {kvs : List (D × D)} {ks : List (Key × V)}, Dkv K F H kvs ks → Paired (fun (p : Key × D) (q : Key × V) => p.1 = q.1 ∧ Dt K F H p.2 q.2) ps rs → Dkv K F H (dMerge kvs ps) (mergeK ks rs)
  | _, _, _, _, h, .nil => h
  | (k, d) :: ps, (k', v) :: rs, kvs, ks, h, .cons r t => by
    obtain ⟨e, hd⟩ := r
    have e : k = k' := e
    subst e
    show Dkv K F H (dMerge (dPut kvs k d) ps) (mergeK (putK ks k v) rs)
    exact Dkv.merge (Dkv.put hd k h) t
theorem tOf_iff {k k' : List Int} : (tOf (.tuple (k'.map .int)) = some k) ↔ (k' = k) := by
  rw [tOf_tup]
  exact ⟨fun h => Option.some.inj h, fun h => by rw [h]⟩
theorem Dkt.any (k : List Int) : ∀ {kvs : List (D × D)} {es : List TE3}, Dkt K F H kvs es → kvs.any (fun p => decide (tOf p.1 = some k)) = (atKey es k).isSome
  | _, _, .nil => rfl
  | _, _, .cons (k := k') (b := b) (u := u) (kvs := kvs) (ks := ks) s h r t => by
    rw [List.any_cons, Dkt.any k t]
    by_cases e : k' = k
    · rw [atKey_pos e, decide_eq_true (tOf_iff.mpr e)]
      rfl
    · rw [atKey_neg e, decide_eq_false (fun z => e (tOf_iff.mp z)), Bool.false_or]
theorem Dkt.append : ∀ {kvs ls : List (D × D)} {es fs : List TE3}, Dkt K F H kvs es → Dkt K F H ls fs → Dkt K F H (kvs ++ ls) (es ++ fs)
  | _, _, _, _, .nil, s => s
  | _, _, _, _, .cons s0 h r t, s => .cons s0 h r (Dkt.append t s)
theorem Dkt.swap {d : D} {v : V} {u : Value} (h : Dt K F H d v) (ru : RelV v u) (k : List Int) : ∀ {kvs : List (D × D)} {es : List TE3}, Dkt K F H kvs es → Dkt K F H (kvs.map (fun p => if tOf p.1 = some k then (p.1, d) else p)) (es.map (putAt k u))
  | _, _, .nil => .nil
  | _, _, .cons (k := k') s0 h' r t => by
    have t' := Dkt.swap h ru k t
    rw [List.map_cons, List.map_cons]
    unfold putAt
    by_cases e : k' = k
    · rw [if_pos (tOf_iff.mpr e), if_pos e]
      exact .cons s0 h ru t'
    · rw [if_neg (fun z => e (tOf_iff.mp z)), if_neg e]
      exact .cons s0 h' r t'
theorem Dkt.put {d : D} {v : V} {u : Value} {b : Addr} (h : Dt K F H d v) (ru : RelV v u) (k : List Int) (s0 : SqT K H b (k.map V.int)) {kvs : List (D × D)} {es : List TE3} (t : Dkt K F H kvs es) : Dkt K F H (tPut kvs k d) (storedH es k b u) := by
  unfold tPut storedH
  rw [t.any k]
  split
  · exact t.swap h ru k
  · exact t.append (.cons s0 h ru .nil)
theorem Dkt.merge : ∀ {ps : List (List Int × D)} {rs : List TE3} {kvs : List (D × D)} {es : List TE3}, Dkt K F H kvs es → Paired (fun (p : List Int × D) (q : TE3) => p.1 = q.1 ∧ SqT K H q.2.1 (q.1.map V.int) ∧ ∃ v, Dt K F H p.2 v ∧ RelV v q.2.2) ps rs → Dkt K F H (tMerge kvs ps) (mergedH es rs)
  | _, _, _, _, h, .nil => h
  | (k, d) :: ps, (k', b, u) :: rs, kvs, es, h, .cons r t => by
    obtain ⟨e, s0, v, hd, ru⟩ := r
    have e : k = k' := e
    subst e
    show Dkt K F H (tMerge (tPut kvs k d) ps) (mergedH (storedH es k b u) rs)
    exact Dkt.merge (Dkt.put hd ru k s0 h) t
theorem tpairs?_read : ∀ {ds : List D} {vs : List V} {ps : List (List Int × D)}, Dts K F H ds vs → tpairs? ds = some ps → ∃ (as : List Addr) (rs : List (List Int × Addr × V)), vs = as.map V.ref ∧
    Paired (fun p (kv : List Int × Addr × V) => SqT K H p [.ref kv.2.1, kv.2.2] ∧ SqT K H kv.2.1 (kv.1.map V.int)) as rs ∧ Paired (fun (p : List Int × D) (q : List Int × Addr × V) => p.1 = q.1 ∧ SqT K H q.2.1 (q.1.map V.int) ∧ Dt K F H p.2 q.2.2) ps rs
  | _, _, _, .nil, e => by cases e; exact ⟨[], [], rfl, .nil, .nil⟩
  | _, _, ps, .cons (ds := ds) h t, e => by
    unfold tpairs? at e
    split at e
    · rename_i heq; cases heq
    · rename_i k d r heq
      cases heq
      obtain ⟨k', e1, e⟩ := Option.bind_eq_some_iff.mp e
      obtain ⟨r', e2, e⟩ := Option.map_eq_some_iff.mp e
      subst e
      obtain ⟨as, rs, rfl, h1, h2⟩ := tpairs?_read t e2
      cases h with
      | tup sq hh =>
        cases hh with
        | cons hk hh =>
          cases hh with
          | cons hd hh =>
            cases hh
            obtain ⟨b, rfl, hs⟩ := tOf_val e1 hk.top
            exact ⟨_ :: as, (k', b, _) :: rs, rfl, .cons ⟨sq, hs⟩ h1, .cons ⟨rfl, hs, hd⟩ h2⟩
    · cases e
theorem paired_join {α β γ : Type} {P : α → β → Prop} {Q : β → γ → Prop} {R : α → γ → Prop} (h : ∀ a b c, P a b → Q b c → R a c) : ∀ {as : List α} {bs : List β} {cs : List γ}, Paired P as bs → Paired Q bs cs → Paired R as cs
  | _, _, _, .nil, .nil => .nil
  | _, _, _, .cons p t, .cons q u => .cons (h _ _ _ p q) (paired_join h t u)
theorem pairs?_read : ∀ {ds : List D} {vs : List V} {ps : List (Key × D)}, Dts K F H ds vs → pairs? ds = some ps → ∃ (as : List Addr) (rs : List (Key × V)), vs = as.map V.ref ∧ Paired (fun p kv => SqT K H p [kV kv.1, kv.2]) as rs ∧ Paired (fun (p : Key × D) (q : Key × V) => p.1 = q.1 ∧ Dt K F H p.2 q.2) ps rs
  | _, _, _, .nil, e => by cases e; exact ⟨[], [], rfl, .nil, .nil⟩
  | _, _, ps, .cons (ds := ds) h t, e => by
    unfold pairs? at e
    split at e
    · rename_i heq; cases heq
    · rename_i k d r heq
      cases heq
      obtain ⟨k', e1, e⟩ := Option.bind_eq_some_iff.mp e
      obtain ⟨r', e2, e⟩ := Option.map_eq_some_iff.mp e
      subst e
      obtain ⟨as, rs, rfl, h1, h2⟩ := pairs?_read t e2
      cases h with
      | tup sq hh =>
        cases hh with
        | cons hk hh =>
          cases hh with
          | cons hd hh =>
            cases hh
            have := kOf_val e1 hk.top
            subst this
            exact ⟨_ :: as, (k', _) :: rs, rfl, .cons sq h1, .cons ⟨rfl, hd⟩ h2⟩
    · cases e
end
section
variable {X : Cx}
theorem b1_dict (hc : X.calm = true) (hu : X.A.units + 2 < cLine) : B1 X (.type "dict") bDict := by
  refine ⟨_, (call_dictP hc).or (call_dictPT hc hu), fun F H a va w Q ha e q => ?_⟩
  unfold bDict at e
  split at e
  · rename_i xs0
    split at e
    · rename_i ps e1
      split at e
      · cases e
        obtain ⟨l, xs, rfl, h1, d1⟩ := ha
        obtain ⟨as, rs, rfl, h2, h3⟩ := pairs?_read d1 e1
        refine .inl ⟨l, as, rs, rfl, .inl h1, h2, fun p hp => q _ _ ⟨p, _, rfl, hp, rfl, .inr (.inl ⟨_, _, rfl, upd_same, ?_⟩)⟩⟩
        exact (Dkv.merge .nil h3).keeps (keeps_new hp)
      · cases e
    · obtain ⟨ps, e1, rfl⟩ := Option.map_eq_some_iff.mp e
      obtain ⟨l, xs, rfl, h1, d1⟩ := ha
      obtain ⟨as, rs, rfl, h2, h3⟩ := tpairs?_read d1 e1
      refine .inr ⟨l, as, rs, rfl, .inl h1, h2, fun p prs hp rel => q _ _ ⟨p, _, rfl, hp, rfl, .inr (.inr ⟨_, _, rfl, upd_same, ?_⟩)⟩⟩
      refine (Dkt.merge .nil (paired_join (fun a b c h k => ?_) h3 rel)).keeps (keeps_new hp)
      obtain ⟨k1, k2, k3⟩ := h
      obtain ⟨r1, r2, r3⟩ := k
      exact ⟨k1.trans r1, by rw [← r1, ← r2]; exact k2, _, k3, r3⟩
  · cases e
end

/-! ### isinstance -/
def tyD : D → String
  | .none => "NoneType"
  | .bool _ => "bool"
  | .int _ => "int"
  | .str _ => "str"
  | .list _ => "list"
  | .tuple _ => "tuple"
  | .dict _ => "dict"
def isiB (a T : String) : Bool := a == T || (a == "bool" && T == "int")
def bIsi (T : String) : D → Option W := fun d => some (.sh (.bool (isiB (tyD d) T)))
section
variable {K : PySem.W.Frag} {F : Rg} {H : Hp}
theorem kit_all : ∀ T ∈ ["int", "bool", "tuple", "list", "str", "dict"], ∀ a ∈ ["NoneType", "bool", "int", "str", "list", "tuple", "dict"], kitB a T = some (isiB a T) := by decide +kernel
theorem tyX_of {d : D} {v : V} (h : Dtop K F H d v) : TyX K H v (.type (tyD d)) ∨ ∃ a es, v = .ref a ∧ Rd H a (tdO a es) ∧ tyD d = "dict" := by
  have h := h.all
  cases h with
  | dit _ r _ => exact .inr ⟨_, _, rfl, r, rfl⟩
  | non => exact .inl (.base .non)
  | bl b => exact .inl (.base (.bl b))
  | int i => exact .inl (.base (.int i))
  | str x => exact .inl (.base (.str x))
  | lst _ r _ =>
    rcases r with r | ⟨o, r⟩
    · exact .inl (.base (.lst r))
    · exact .inl (.base (.frz r))
  | dik _ r _ =>
    rcases r with r | ⟨o, r⟩
    · exact .inl (.base (.dK r))
    · exact .inl (.fDict r)
  | tup r _ =>
    rcases r with (r | ⟨o, r⟩) | ⟨o, its, n, hk, hc, _⟩
    · exact .inl (.base (.tup r))
    · exact .inl (.fTuple r)
    · exact .inl (.kTuple hk hc)
theorem tyD_mem (d : D) : tyD d ∈ ["NoneType", "bool", "int", "str", "list", "tuple", "dict"] := by cases d <;> simp [tyD]
end
theorem call_isi_td {X : Cx} : CallR X (.builtin "isinstance") (fun xs H Q => ∃ (c : V) (u : Value) (b : Bool) (a : Addr) (es : List TE3), xs = [.ref a, c] ∧ ClsV c u ∧ Rd H a (tdO a es) ∧ PySem.W.kitOne X.K (.type "dict") u = some b ∧ Q (.bl b) H) := by
  intro pins s σ H xs us Q I r h
  obtain ⟨c, u, b, a, es, rfl, k, ty, e, q⟩ := h
  obtain ⟨u1, u2, rfl, r1, r2⟩ := vals2 r
  have e2 := k.eq r2
  subst e2
  cases (show u1 = Value.ref a from r1)
  obtain ⟨_, _, _, o, ens, ep, h4, h5, _⟩ := td_rd I ty
  exact PySem.W.kia_one PySem.W.kitx_dict I.kIn ⟨o, h4, h5.1⟩ e (fun z => nomatch z) fun tk => ⟨.bl b, H, I.tok tk, rfl, q⟩
section
variable {X : Cx} {p p2 pos : Pos} {a : Expr} {fa : DE} {T : Str} {t : String}
theorem ped_isi (hG : Gl X "isinstance") (hm : X.mg "isinstance" = none) (hGt : Gl X T) (hmt : X.mg T = none) (hv : bootBuiltins T = some (.type t)) (ht : t ∈ ["int", "bool", "tuple", "list", "str", "dict"]) (ha : PED X a fa) (hn : T ≠ "__name__" := by decide) (hdb : (T == ("__debug__" : Str)) = false := by decide)
    (he : starEach [a, .Name T p2] X.env = (false, eval a X.env) :: starEach [.Name T p2] X.env := by rfl) (he2 : starEach [Expr.Name T p2] X.env = (false, eval (.Name T p2) X.env) :: starEach [] X.env := by rfl) (hpl : (backTo pos (starEach [Expr.Name T p2] X.env)).any (·.1) = false := by rfl)
    (hb : bootBuiltins "isinstance" = some (.builtin "isinstance") := by decide +kernel) :
    PED X (.Call (.Name "isinstance" p) [a, .Name T p2] [] pos) (dB1 (bIsi t) fa) := fun g hg => (pe_callB (call_isi.or call_isi_td) hG hm hb (pa_cons (ha g hg) (pa_cons (pe_bltn (v := .ty t) hGt hmt hv rfl hn hdb) pa_nil he2) he) (by decide) (by decide) he hpl).wk fun σ H Q z => by
  obtain ⟨F, ρ, r0, w, ρ', e, q⟩ := z
  obtain ⟨⟨x, ρ1⟩, e1, e⟩ := Option.bind_eq_some_iff.mp e
  obtain ⟨da, e3, e⟩ := Option.bind_eq_some_iff.mp e
  obtain ⟨w', e5, e⟩ := Option.map_eq_some_iff.mp e
  cases e
  cases e5
  refine ⟨F, ρ, r0, x, ρ1, e1, fun v H1 F1 p1 => ?_⟩
  have fin := q _ H1 F1 (EPo.then r0 p1.t (EPo.val p1.t.post.rel (.bl (isiB (tyD da) t))))
  have kk := kit_ty (K := X.K) (kit_all t ht _ (tyD_mem da))
  rcases tyX_of (RW.top p1.t.post.rel p1.rw e3) with h | ⟨l, es, rfl, h1, h2⟩
  · exact .inl ⟨v, .ty t, _, _, _, rfl, .ty t, hg ▸ h, kk, fin⟩
  · exact .inr ⟨.ty t, _, _, l, es, rfl, .ty t, h1, by rw [h2] at kk; exact kk, by rw [h2] at fin; exact fin⟩
end
end PD
set_option Elab.async false
set_option linter.all false
set_option maxRecDepth 100000
set_option maxHeartbeats 4000000
/-! PD13: what changes a list or dict of our own in place: methods, stores, augmented assignments; d.get. -/
namespace PD
set_option autoImplicit false
open PySem PySem.Spec L2
open PyProof.Rows hiding St

section
variable {g : G} {F F' : Rg} {ρ ρ' ρ1 : En} {σ σ' : St} {H H' : Hp}
/-- the heap with the list or dict of slot i changed -/
theorem after_mut {i : Nat} {c : Addr} {cd cd' : D} {o : HO} (r : Rel g F ρ σ H) (e : ρ.sl[i]? = some (some (.own cd))) (es : σ[i]? = some (some (.ref c))) (m : Mo g.K F (upd H c o) cd' c) :
    TPo g F ρ σ H F (ρ.own i cd') (upd H c o) := by
  have k : ∀ b u, b ≠ c → H b = some u → upd H c o b = some u := fun b u n h => by rw [upd_ne n]; exact h
  obtain ⟨r0, shr⟩ := r.mutate e es k m
  have own0 : OwnAt ρ σ c := ⟨i, cd, e, es⟩
  have hi := (List.getElem?_eq_some_iff.mp e).1
  refine ⟨⟨r0, fun _ h => h, fun b u h no => k b u (fun z => no (z ▸ own0)) h, fun b h => ?_, fun b h => .inl h, fun b h => .inl (shr b h)⟩, fun j s h => ?_, shr⟩
  · by_cases z : b = c
    · subst z; rw [upd_same]; exact fun y => nomatch y
    · rw [upd_ne z]; exact h
  · by_cases z : i = j
    · subst z
      exact ⟨_, List.getElem?_set_self hi⟩
    · exact ⟨s, by show (ρ.sl.set i _)[j]? = _; rw [List.getElem?_set_ne z]; exact h⟩
/-- what stands within the region stays when one of our own is changed -/
theorem keeps_mut {i : Nat} {c : Addr} {cd : D} {o : HO} (r : Rel g F ρ σ H) (e : ρ.sl[i]? = some (some (.own cd))) (es : σ[i]? = some (some (.ref c))) : Keeps F F H (upd H c o) := by
  have own0 : OwnAt ρ σ c := ⟨i, cd, e, es⟩
  refine keeps_of r (fun _ h => h) fun b u h no => ?_
  rw [upd_ne (fun z => no (by rw [z]; exact own0))]
  exact h
theorem Rel.ownMo {i : Nat} {cd : D} (r : Rel g F ρ σ H) (e : ρ.sl[i]? = some (some (.own cd))) : ∃ c, σ[i]? = some (some (.ref c)) ∧ Mo g.K F H cd c := by
  obtain ⟨c, h1, h2, _⟩ := r.own i cd e
  exact ⟨c, h1, h2⟩
end
/-- the datum of our own at slot i -/
def En.mine (ρ : En) (i : Nat) : Option D := match ρ.sl[i]? with
  | some (some (.own d)) => some d
  | _ => none
theorem En.mine_some {ρ : En} {i : Nat} {d : D} (h : ρ.mine i = some d) : ρ.sl[i]? = some (some (.own d)) := by
  unfold En.mine at h
  split at h
  · cases h; assumption
  · cases h

/-! ### methods that change -/
/-- the type whose methods are called; a dict of tuples has none of these -/
def tyM : D → String
  | .list _ => "list"
  | .dict kvs => if isT kvs = true then "-" else "dict"
  | _ => "-"
theorem Mo.tyV {K : PySem.W.Frag} {F : Rg} {H : Hp} {cd : D} {c : Addr} {T : String} (mo : Mo K F H cd c) (e : tyM cd = T) (hT : T ≠ "-") : L2.tyV K T (.ref c) H := by
  rcases mo with ⟨ds, xs, rfl, h2, _⟩ | ⟨kvs, ks, rfl, h2, hk⟩ | ⟨kvs, ks, rfl, h2, _⟩
  · subst e
    exact .inl ⟨rfl, xs, .inl (.inl h2)⟩
  · have e : (if isT kvs = true then "-" else "dict") = T := e
    rw [hk.notT, if_neg Bool.false_ne_true] at e
    subst e
    exact .inr (.inr (.inl ⟨rfl, .inl ⟨_, h2⟩⟩))
  · exact absurd e.symm hT
structure MX (X : Cx) (id : String) (sem : D → List D → Option (D × D)) : Prop where
  ex : ∃ r : V → List V → Hp → VK → Prop, MtR X id r ∧ ∀ (F : Rg) (H : Hp) (cd : D) (c : Addr) (ds : List D) (us : List V) (d cd' : D) (Q : VK), Mo X.K F H cd c → Dts X.K F H ds us → sem cd ds = some (d, cd') →
    (∀ v o, Dt X.K F (upd H c o) d v → Mo X.K F (upd H c o) cd' c → Q v (upd H c o)) → (∀ o, Keeps F F H (upd H c o)) → r (.ref c) us H Q
/-- x.m(..), x a name of our own -/
def dMut (T : String) (i : Nat) (fs : DA) (sem : D → List D → Option (D × D)) : DE := fun ρ => (ρ.mine i).bind fun c0 => if tyM c0 = T ∧ T ≠ "-" then (fs ρ).bind fun x => (gives x.1 x.2).bind fun y => (y.2.mine i).bind fun cd => (sem cd y.1).map fun z => (.sh z.1, y.2.own i z.2) else none
section
variable {X : Cx} {apos cpos : Pos} {e : Expr} {es : List Expr} {fs : DA} {name : Str} {T id : String} {sem : D → List D → Option (D × D)}
theorem mut_end {g : G} (hg : g.K = X.K) {i : Nat} {r : V → List V → Hp → VK → Prop} (hq : ∀ (F : Rg) (H : Hp) (cd : D) (c : Addr) (ds : List D) (us : List V) (d cd' : D) (Q : VK), Mo X.K F H cd c → Dts X.K F H ds us → sem cd ds = some (d, cd') →
    (∀ v o, Dt X.K F (upd H c o) d v → Mo X.K F (upd H c o) cd' c → Q v (upd H c o)) → (∀ o, Keeps F F H (upd H c o)) → r (.ref c) us H Q)
    {σ : St} {H : Hp} {Q : VK} (t : tE g (dMut T i fs sem) σ H Q) : tBM X.K T r (tVar i) (tA g fs) σ H Q := by
  obtain ⟨F, ρ, r0, w, ρ', e, q⟩ := t
  obtain ⟨cd0, e0, e⟩ := Option.bind_eq_some_iff.mp e
  split at e
  · rename_i hT
    obtain ⟨⟨ws, ρ1⟩, e1, e⟩ := Option.bind_eq_some_iff.mp e
    obtain ⟨⟨ds, ρ2⟩, e2, e⟩ := Option.bind_eq_some_iff.mp e
    obtain ⟨cd, e3, e⟩ := Option.bind_eq_some_iff.mp e
    obtain ⟨⟨d, cd'⟩, e4, e⟩ := Option.map_eq_some_iff.mp e
    cases e
    have m3 := En.mine_some e3
    obtain ⟨c, s0, mo0⟩ := r0.ownMo (En.mine_some e0)
    refine ⟨_, s0, hg ▸ mo0.tyV hT.1 hT.2, F, ρ, r0, ws, ρ1, e1, fun vs H1 F1 p1 => ?_⟩
    obtain ⟨F2, p2, dd⟩ := p1.gives e2
    have r2 := p2.post.rel
    obtain ⟨c', s2, mo2⟩ := r2.ownMo m3
    rw [s0] at s2
    cases s2
    refine hq F2 H1 cd c ds vs d cd' Q (hg ▸ mo2) (hg ▸ dd) e4 (fun v o hd mo3 => ?_) fun o => keeps_mut r2 m3 s0
    have tp := after_mut r2 m3 s0 (hg ▸ mo3)
    exact q v _ F2 (EPo.then r0 p2 ⟨tp, (hg ▸ hd : Dt g.K F2 (upd H1 c o) d v), fun a z => by obtain ⟨⟨_, z⟩, _⟩ := z; cases z⟩)
  · cases e
theorem ped_mut (i : Nat) {x : Str} {p : Pos} (hm : MX X id sem) (pa : PlainAttrs T) (slot : Slot T name id) (hty : typeOf (.builtin id) = pure (.type "method_descriptor")) (hv : PE X (.Name x p) (tVar i)) (ha : PAD X (e :: es) fs)
    (hbase : attributeBase (.Name x p) name X.env (eval (.Name x p) X.env) = eval (.Name x p) X.env := by rfl)
    (hfew : ((backTo cpos (starEach (e :: es) X.env)).all (fun x => !x.1) && (backToKw cpos (keywordEach [] X.env)).all (fun x => x.1.isSome)
      && decide ((e :: es).length + ([] : List Keyword).length + (if ([] : List Keyword).isEmpty then 0 else 1) < 30)) = true := by rfl)
    (hline : (apos.endLine == cpos.line) = true := by rfl) (hs : starEach (e :: es) X.env = (false, eval e X.env) :: starEach es X.env := by rfl) (hplain : (backTo cpos (starEach es X.env)).any (·.1) = false := by rfl) :
    PED X (.Call (.Attribute (.Name x p) name apos) (e :: es) [] cpos) (dMut T i fs sem) := fun g hg => by
  obtain ⟨r, hr, hq⟩ := hm.ex
  exact (pe_bm pa slot hty hr hv (ha g hg) hbase hfew hline hs hplain).wk fun σ H Q t => mut_end hg hq t
theorem ped_mut0 (i : Nat) {x : Str} {p : Pos} (hm : MX X id sem) (pa : PlainAttrs T) (slot : Slot T name id) (hty : typeOf (.builtin id) = pure (.type "method_descriptor")) (hv : PE X (.Name x p) (tVar i))
    (hbase : attributeBase (.Name x p) name X.env (eval (.Name x p) X.env) = eval (.Name x p) X.env := by rfl) (hline : (apos.endLine == cpos.line) = true := by rfl) :
    PED X (.Call (.Attribute (.Name x p) name apos) [] [] cpos) (dMut T i dNil sem) := fun g hg => by
  obtain ⟨r, hr, hq⟩ := hm.ex
  refine (pe_bm0 pa slot hty hr hv hbase hline).wk fun σ H Q t => ?_
  obtain ⟨v, h1, h2, F, ρ, r0, ws, ρ1, e1, h3⟩ := mut_end hg hq t
  cases e1
  exact ⟨v, h1, h2, h3 [] H F ⟨TPo.refl r0, .nil, fun i y u a z => by cases z⟩⟩
end
section
variable {X : Cx} {apos cpos : Pos} {e : Expr} {fa : DE}
def mApp : D → List D → Option (D × D)
  | .list xs, [d] => if xs.length < 16777216 then some (.none, .list (xs ++ [d])) else none
  | _, _ => none
def mExt : D → List D → Option (D × D)
  | .list xs, [.list ys] => if xs.length + ys.length ≤ 16777216 then some (.none, .list (xs ++ ys)) else none
  | _, _ => none
def mPop : D → List D → Option (D × D)
  | .list xs, [] => xs.getLast?.map fun d => (d, .list xs.dropLast)
  | _, _ => none
def okIx (i : Int) : Prop := -9223372036854775808 ≤ i ∧ i < 9223372036854775808
open Classical in
noncomputable def mPop1 : D → List D → Option (D × D)
  | .list xs, [.int i] => if okIx i then (seqIndex? i xs.length).bind fun k => xs[k]?.map fun d => (d, .list (xs.eraseIdx k)) else none
  | _, _ => none
theorem Mo.lst_inv {K : PySem.W.Frag} {F : Rg} {H : Hp} {ds : List D} {c : Addr} (h : Mo K F H (.list ds) c) : ∃ xs, H c = some (.lst xs) ∧ Dts K F H ds xs := by
  rcases h with ⟨ds', xs, e, h2, h3⟩ | ⟨kvs, ks, e, h2, h3⟩ | ⟨kvs, ks, e, h2, h3⟩
  · cases e; exact ⟨xs, h2, h3⟩
  · cases e
  · cases e
theorem Mo.dik_inv {K : PySem.W.Frag} {F : Rg} {H : Hp} {kvs : List (D × D)} {c : Addr} (h : Mo K F H (.dict kvs) c) (n : isT kvs = false) : ∃ xs, H c = some (.dK xs) ∧ Dkv K F H kvs xs := by
  rcases h with ⟨ds', xs, e, h2, h3⟩ | ⟨kvs, ks, e, h2, h3⟩ | ⟨kvs, ks, e, h2, h3⟩
  · cases e
  · cases e; exact ⟨ks, h2, h3⟩
  · cases e; cases n
theorem Mo.dit_inv {K : PySem.W.Frag} {F : Rg} {H : Hp} {kvs : List (D × D)} {c : Addr} (h : Mo K F H (.dict kvs) c) (n : isT kvs = true) : ∃ l xs, kvs = (.none, .none) :: l ∧ H c = some (tdO c xs) ∧ Dkt K F H l xs := by
  rcases h with ⟨ds', xs, e, h2, h3⟩ | ⟨kvs, ks, e, h2, h3⟩ | ⟨kvs, ks, e, h2, h3⟩
  · cases e
  · cases e; rw [h3.notT] at n; cases n
  · cases e; exact ⟨_, ks, rfl, h2, h3⟩
theorem Mo.mkL {K : PySem.W.Frag} {F : Rg} {H : Hp} {ds : List D} {xs : List V} {c : Addr} (h : Dts K F (upd H c (.lst xs)) ds xs) : Mo K F (upd H c (.lst xs)) (.list ds) c := .inl ⟨ds, xs, rfl, upd_same, h⟩
theorem Mo.mkD {K : PySem.W.Frag} {F : Rg} {H : Hp} {ds : List (D × D)} {xs : List (Key × V)} {c : Addr} (h : Dkv K F (upd H c (.dK xs)) ds xs) : Mo K F (upd H c (.dK xs)) (.dict ds) c := .inr (.inl ⟨ds, xs, rfl, upd_same, h⟩)
theorem Mo.mkT {K : PySem.W.Frag} {F : Rg} {H : Hp} {ds : List (D × D)} {xs : List TE3} {c : Addr} (h : Dkt K F (upd H c (tdO c xs)) ds xs) : Mo K F (upd H c (tdO c xs)) (tD ds) c := .inr (.inr ⟨ds, xs, rfl, upd_same, h⟩)
theorem Dts.one {K : PySem.W.Frag} {F : Rg} {H : Hp} {d : D} {us : List V} (h : Dts K F H [d] us) : ∃ u, us = [u] ∧ Dt K F H d u := by
  cases h with
  | cons h t => cases t; exact ⟨_, rfl, h⟩
theorem mx_append : MX X "list.append" mApp := by
  refine ⟨_, mt_append, fun F H cd c ds us d cd' Q mo hd e q k => ?_⟩
  unfold mApp at e
  split at e
  · split at e
    · rename_i hz
      cases e
      obtain ⟨xs, h1, h2⟩ := mo.lst_inv
      obtain ⟨u, rfl, hu⟩ := hd.one
      have kk := k (.lst (xs ++ [u]))
      exact ⟨c, xs, u, rfl, rfl, h1, by rw [sizeLine_eq, ← h2.length]; exact hz, q _ _ .non (.mkL ((h2.keeps kk).append (.cons (hu.keeps kk) .nil)))⟩
    · cases e
  · cases e
theorem dts_last {K : PySem.W.Frag} {F : Rg} {H : Hp} {ds : List D} {us : List V} {d : D} (h : Dts K F H ds us) (e : ds.getLast? = some d) : ∃ u, us[us.length - 1]? = some u ∧ Dt K F H d u := by
  rw [List.getLast?_eq_getElem?, h.length] at e
  exact h.get e
theorem mx_pop : MX X "list.pop" mPop := by
  refine ⟨_, mt_pop, fun F H cd c ds us d cd' Q mo hd e q k => ?_⟩
  unfold mPop at e
  split at e
  · obtain ⟨z, e1, e⟩ := Option.map_eq_some_iff.mp e
    cases e
    obtain ⟨xs, h1, h2⟩ := mo.lst_inv
    cases hd
    obtain ⟨u, hu, hd⟩ := dts_last h2 e1
    have kk := k (.lst xs.dropLast)
    exact ⟨c, xs, u, rfl, rfl, h1, hu, q _ _ (hd.keeps kk) (.mkL (h2.keeps kk).dropLast)⟩
  · cases e
theorem Dts.eraseIdx {K : PySem.W.Frag} {F : Rg} {H : Hp} : ∀ {ds : List D} {us : List V} (i : Nat), Dts K F H ds us → Dts K F H (ds.eraseIdx i) (us.eraseIdx i)
  | _, _, _, .nil => .nil
  | _, _, 0, .cons _ t => t
  | _, _, i + 1, .cons h t => .cons h (Dts.eraseIdx i t)
theorem mx_pop1 : MX X "list.pop" mPop1 := by
  refine ⟨_, mt_popAt, fun F H cd c ds us d cd' Q mo hd e q k => ?_⟩
  unfold mPop1 at e
  split at e
  · split at e
    · rename_i hz
      unfold okIx at hz
      obtain ⟨j, e0, e⟩ := Option.bind_eq_some_iff.mp e
      obtain ⟨z, e1, e⟩ := Option.map_eq_some_iff.mp e
      cases e
      obtain ⟨xs, h1, h2⟩ := mo.lst_inv
      obtain ⟨w, rfl, hw⟩ := hd.one
      cases hw
      rw [h2.length] at e0
      obtain ⟨u, hu, hd⟩ := h2.get e1
      have kk := k (.lst (xs.eraseIdx j))
      exact ⟨c, xs, _, j, u, rfl, rfl, h1, by omega, by omega, e0, hu, q _ _ (hd.keeps kk) (.mkL ((h2.keeps kk).eraseIdx j))⟩
    · cases e
  · cases e
/-- x.append(e) -/
theorem ped_append (i : Nat) {x : Str} {p : Pos} (hv : PE X (.Name x p) (tVar i)) (ha : PED X e fa)
    (hbase : attributeBase (.Name x p) "append" X.env (eval (.Name x p) X.env) = eval (.Name x p) X.env := by rfl)
    (hfew : ((backTo cpos (starEach [e] X.env)).all (fun x => !x.1) && (backToKw cpos (keywordEach [] X.env)).all (fun x => x.1.isSome)
      && decide ([e].length + ([] : List Keyword).length + (if ([] : List Keyword).isEmpty then 0 else 1) < 30)) = true := by rfl)
    (hline : (apos.endLine == cpos.line) = true := by rfl) (hs : starEach [e] X.env = (false, eval e X.env) :: starEach [] X.env := by rfl) :
    PED X (.Call (.Attribute (.Name x p) "append" apos) [e] [] cpos) (dMut "list" i (dCons fa dNil) mApp) :=
  ped_mut i mx_append PySem.F.plainAttrs_list PySem.F.slot_list_append PySem.F.type_list_append hv (pad_cons ha pad_nil hs) hbase hfew hline hs
end

/-! ### x[k] = e -/
def sSet : D → D → D → Option D
  | .list xs, .int k, d => (ixN xs.length k).map fun j => .list (xs.set j d)
  | .dict kvs, k, d => if isT kvs = true then (tOf k).bind fun y => if kvs.tail.length < 16777216 then some (tD (tPut kvs.tail y d)) else none
    else (kOf k).bind fun y => if kvs.length < 16777216 then some (.dict (dPut kvs y d)) else none
  | _, _, _ => none
def dStIx (i : Nat) (fe fi : DE) : DS := fun ρ => (fe ρ).bind fun x => (x.1.give x.2).bind fun y => (y.2.mine i).bind fun _ => (fi y.2).bind fun z => (z.1.get z.2).bind fun k => (z.2.mine i).bind fun cd => (sSet cd k y.1).map fun cd' => .nx (z.2.own i cd')
section
variable {X : Cx} {pos pt p : Pos} {x : Str} {e idx : Expr} {fe fi : DE}
theorem _root_.L2.PSet.or {t1 t2 : TSet} (h1 : PSet X t1) (h2 : PSet X t2) : PSet X (fun o i v H Q => t1 o i v H Q ∨ t2 o i v H Q) :=
  fun pins s σ H o i v ov iv u Q I ro ri rv h => h.elim (h1 pins s σ H o i v ov iv u Q I ro ri rv) (h2 pins s σ H o i v ov iv u Q I ro ri rv)
/-- o[i] = v of a dict of tuples -/
theorem set_td (hu : X.A.units + 1 < cLine) : PSet X (fun o i v H Q => ∃ a es k b, o = .ref a ∧ i = .ref b ∧ H a = some (tdO a es) ∧ TKeys X.K H es ∧ SqT X.K H b (k.map V.int) ∧ es.length < sizeLine ∧ ∀ u, RelV v u → Q (upd H a (tdO a (storedH es k b u)))) := by
  intro pins s σ H o i v ov iv u Q I ro ri rv h
  obtain ⟨a, es, k, b, eo, ei, e, hk, hb, hl, q⟩ := h
  subst eo ei
  cases (show ov = Value.ref a from ro)
  cases (show iv = Value.ref b from ri)
  exact t_setItem hu I e hk hb hl fun s' I' => ⟨_, I', q u rv⟩
theorem psd_stIx (hu : X.A.units + 1 < cLine) (i : Nat) (hv : PE X (.Name x p) (tVar i)) (he : PED X e fe) (hi : PED X idx fi)
    (ha : ∀ v, assign (.Subscript (.Name x p) idx pt) X.env v = (do
      let ov ← holding [v] (eval (.Name x p) X.env)
      let iv ← holding [v, ov] (eval idx X.env)
      standAt pt
      holding [v, ov, iv] (setItem ov iv v)
      release [v, ov, iv] []) := by intro _; rfl)
    (hs : swapsWithSole [.Subscript (.Name x p) idx pt] e pos.line X.env = pure false := by rfl) (hw : swappedStores [.Subscript (.Name x p) idx pt] e X.env = pure none := by rfl)
    (h1 : (assignEach [.Subscript (.Name x p) idx pt] X.env).map (·.2) = [assign (.Subscript (.Name x p) idx pt) X.env] := by rfl) :
    PSD X (.Assign [.Subscript (.Name x p) idx pt] e pos) (dStIx i fe fi) := fun g hg => by
  refine (ps_asg (he g hg) (pg_sub hv (hi g hg) (set_list.or ((set_dict hu).or (set_td hu))) ha) hs hw h1).wk fun E σ H t => ?_
  obtain ⟨F, ρ, r0, fl, e0, q⟩ := t
  obtain ⟨⟨w, ρ1⟩, e1, e0⟩ := Option.bind_eq_some_iff.mp e0
  obtain ⟨⟨d, ρ2⟩, e2, e0⟩ := Option.bind_eq_some_iff.mp e0
  obtain ⟨cd2, e2b, e0⟩ := Option.bind_eq_some_iff.mp e0
  obtain ⟨⟨z, ρ3⟩, e3, e0⟩ := Option.bind_eq_some_iff.mp e0
  obtain ⟨k, e4, e0⟩ := Option.bind_eq_some_iff.mp e0
  obtain ⟨cd, e5, e0⟩ := Option.bind_eq_some_iff.mp e0
  obtain ⟨cd', e6, e0⟩ := Option.map_eq_some_iff.mp e0
  cases e0
  refine ⟨F, ρ, r0, w, ρ1, e1, fun v H1 F1 p1 => ?_⟩
  obtain ⟨F2, p2, hd⟩ := p1.give e2
  have r2 := p2.post.rel
  obtain ⟨c, s2, mo2⟩ := r2.ownMo (En.mine_some e2b)
  refine ⟨_, s2, F2, ρ2, r2, z, ρ3, e3, fun vi H3 F3 p3 => ?_⟩
  have r3 := p3.t.post.rel
  have m5 := En.mine_some e5
  obtain ⟨c', s3, mo3⟩ := r3.ownMo m5
  rw [s2] at s3
  cases s3
  have tk := RW.top r3 p3.rw e4
  have hd3 := hd.keeps (p3.t.post.keeps r2)
  have fin : ∀ o, Mo g.K F3 (upd H3 c o) cd' c → E.nx σ (upd H3 c o) := fun o mo => q σ _ F3 (p2.trans r0 (p3.t.trans r2 (after_mut r3 m5 s2 mo))).post
  unfold sSet at e6
  split at e6
  · obtain ⟨j, ej, rfl⟩ := Option.map_eq_some_iff.mp e6
    obtain ⟨xs, h1, h2⟩ := mo3.lst_inv
    cases tk.int_inv
    rw [h2.length] at ej
    have kk := keeps_mut (o := .lst (xs.set j v)) r3 m5 s2
    exact .inl ⟨c, xs, _, j, rfl, rfl, h1, ej, fin _ (.mkL ((h2.keeps kk).set (hd3.keeps kk) j))⟩
  · split at e6
    · rename_i hT
      obtain ⟨y, ey, e6⟩ := Option.bind_eq_some_iff.mp e6
      split at e6
      · rename_i hz
        cases e6
        obtain ⟨l, ks, rfl, h1, h2⟩ := mo3.dit_inv hT
        obtain ⟨b, rfl, hs⟩ := tOf_val ey tk
        exact .inr (.inr ⟨c, ks, y, b, rfl, rfl, h1, hg ▸ h2.keys, hg ▸ hs, by rw [sizeLine_eq, ← h2.length]; exact hz, fun u ru => fin _ (.mkT ((h2.keeps (keeps_mut r3 m5 s2)).put (hd3.keeps (keeps_mut r3 m5 s2)) ru y ((keeps_mut r3 m5 s2).sqt hs)))⟩)
      · cases e6
    · rename_i hT
      obtain ⟨y, ey, e6⟩ := Option.bind_eq_some_iff.mp e6
      split at e6
      · rename_i hz
        cases e6
        obtain ⟨ks, h1, h2⟩ := mo3.dik_inv (by simpa using hT)
        have := kOf_val ey tk
        subst this
        have kk := keeps_mut (o := .dK (putK ks y v)) r3 m5 s2
        exact .inr (.inl ⟨c, _, rfl, .inl ⟨ks, y, h1, rfl, by rw [sizeLine_eq, ← h2.length]; exact hz, rfl⟩, fin _ (.mkD ((h2.keeps kk).put (hd3.keeps kk) y))⟩)
      · cases e6
  · cases e6
end

/-! ### name op= e -/
def dAug (i : Nat) (sem : D → D → Option W) (fe : DE) : DS := fun ρ => match ρ.sl[i]? with
  | some (some (.sh a)) => (fe ρ).bind fun x => (x.1.get x.2).bind fun b => (sem a b).bind fun w => match w with
    | .sh d => (x.2.set i (.sh d)).map .nx
    | _ => none
  | _ => none
/-- a list of our own += a list -/
def dAugL (i : Nat) (fe : DE) : DS := fun ρ => (ρ.mine i).bind fun _ => (fe ρ).bind fun x => (x.1.get x.2).bind fun b => (x.2.mine i).bind fun cd => match cd, b with
  | .list xs, .list ys => if xs.length + ys.length ≤ 16777216 then some (.nx (x.2.own i (.list (xs ++ ys)))) else none
  | _, _ => none
section
variable {X : Cx} {pos p : Pos} {x : Str} {e : Expr} {fe : DE} {op : Operator} {sem : D → D → Option W}
structure A2 (X : Cx) (op : Operator) (sem : D → D → Option W) : Prop where
  ex : ∃ r, PIp X op r ∧ ∀ (F : Rg) (H : Hp) (a b : D) (va vb : V) (w : W) (Q : VK), Dtop X.K F H a va → Dtop X.K F H b vb → sem a b = some w → (∀ v H', NewR X.K F H v H' w → Q v H') → r va vb H Q
theorem psd_aug {i : Nat} (ho : A2 X op sem) (hN : X.N.Nodup) (hi : X.N[i]? = some x) (hx : Loc X.env.scope x) (he : PED X e fe) (hf : X.fn x = true ∨ X.env.scope.names.lookup x = some .local := by first | exact .inl rfl | exact .inr rfl) :
    PSD X (.AugAssign (.Name x p) op e pos) (dAug i sem fe) := fun g hg => by
  obtain ⟨r, hr, hq⟩ := ho.ex
  refine (ps_aug hN hi hx (he g hg) hr hf).wk fun E σ H t => ?_
  obtain ⟨F, ρ, r0, fl, e0, q⟩ := t
  unfold dAug at e0
  split at e0
  · rename_i a ha
    obtain ⟨⟨w, ρ1⟩, e1, e0⟩ := Option.bind_eq_some_iff.mp e0
    obtain ⟨b, e2, e0⟩ := Option.bind_eq_some_iff.mp e0
    obtain ⟨w2, e3, e0⟩ := Option.bind_eq_some_iff.mp e0
    split at e0
    · rename_i d
      obtain ⟨ρ2, e4, e0⟩ := Option.map_eq_some_iff.mp e0
      cases e0
      obtain ⟨va, s0, hva⟩ := r0.sh i a ha
      refine ⟨va, s0, F, ρ, r0, w, ρ1, e1, fun v H1 F1 p1 => ?_⟩
      have r1 := p1.t.post.rel
      have hva1 := (hva.keeps (p1.t.post.keeps r0)).top
      refine hq F1 H1 a b va v _ _ (hg ▸ hva1) (hg ▸ RW.top r1 p1.rw e2) e3 fun v' H' n => ?_
      have n' : NewR g.K F1 H1 v' H' (.sh d) := hg ▸ n
      have ep := n'.epo r1
      obtain ⟨r5, own5⟩ := ep.t.post.rel.setSh (sh_inv ep.rw) e4
      have pp := (p1.t.trans r0 ep.t).post
      exact q _ H' F1 ⟨r5, pp.mono, pp.kept, pp.there, pp.newF, fun b h => pp.newO b (own5 b h)⟩
    · cases e0
  · cases e0
def bAugAdd : D → D → Option W
  | .int i, .int j => some (.sh (.int (i + j)))
  | _, _ => none
theorem a2_add : A2 X .Add bAugAdd := by
  refine ⟨_, ip_add, fun F H a b va vb w Q ha hb e q => ?_⟩
  unfold bAugAdd at e
  split at e
  · cases e
    cases ha.int_inv
    cases hb.int_inv
    exact ⟨_, _, rfl, rfl, q _ _ (.val (.int _))⟩
  · cases e
theorem iop_extR : OpR X (inplaceOp .Add) (fun x y H Q => ∃ l b xs zs, x = .ref l ∧ y = .ref b ∧ H l = some (.lst xs) ∧ Rd H b (.lst zs) ∧ xs.length + zs.length ≤ sizeLine ∧ Q (.ref l) (upd H l (.lst (xs ++ zs)))) := by
  intro pins s σ H x y v u Q I rx ry ⟨l, b, xs, zs, hx, hy, hH, hB, hz, q⟩
  subst hx hy
  cases rx
  cases ry
  obtain ⟨z, its, n, r, hl, e⟩ := I.lstM hH
  obtain ⟨its2, n2, r2, hl2, e2⟩ := lst_obj I hB
  have hsz : its.toArray.size + its2.toArray.size ≤ sizeLine := by rw [List.size_toArray, List.size_toArray]; omega
  have hlong : ¬ (!its.toArray.isEmpty && Builtin.List.listTooLong (its.toArray.size + its2.toArray.size)) = true := by
    rw [notLongL hsz, Bool.and_false]
    exact Bool.false_ne_true
  refine iadd_road ⟨_, e, rfl⟩ ⟨_, e2, rfl⟩ (call_meets PySem.F.slot_list_iadd ⟨_, e, rfl⟩ PySem.F.entry_list_iadd (PySem.F.args_list_iadd_2 _ _)
    (AutoSeq1.list___iadd___list_list_0 l its.toArray n b its2.toArray n2 hlong (by simp only [List.size_toArray]; omega) (by simp only [List.size_toArray]; omega)) ⟨e, e2, ?_⟩)
  refine ⟨.ref l, _, I.lset (its' := its ++ its2) (t' := s.toks) hH e (by simp) (r.append r2) ?_, rfl, q⟩
  rw [List.length_append]
  omega
theorem psd_augL {i : Nat} (hN : X.N.Nodup) (hi : X.N[i]? = some x) (hx : Loc X.env.scope x) (he : PED X e fe) (hf : X.fn x = true ∨ X.env.scope.names.lookup x = some .local := by first | exact .inl rfl | exact .inr rfl) :
    PSD X (.AugAssign (.Name x p) .Add e pos) (dAugL i fe) := fun g hg => by
  refine (ps_aug hN hi hx (he g hg) (ti := fun x y H Q => ∃ l b xs zs, x = .ref l ∧ y = .ref b ∧ H l = some (.lst xs) ∧ Rd H b (.lst zs) ∧ xs.length + zs.length ≤ sizeLine ∧ Q (.ref l) (upd H l (.lst (xs ++ zs)))) iop_extR hf).wk fun E σ H t => ?_
  obtain ⟨F, ρ, r0, fl, e0, q⟩ := t
  obtain ⟨cd0, e00, e0⟩ := Option.bind_eq_some_iff.mp e0
  obtain ⟨⟨w, ρ1⟩, e1, e0⟩ := Option.bind_eq_some_iff.mp e0
  obtain ⟨b, e2, e0⟩ := Option.bind_eq_some_iff.mp e0
  obtain ⟨cd, e3, e0⟩ := Option.bind_eq_some_iff.mp e0
  obtain ⟨c, s0, mo0⟩ := r0.ownMo (En.mine_some e00)
  refine ⟨_, s0, F, ρ, r0, w, ρ1, e1, fun v H1 F1 p1 => ?_⟩
  have r1 := p1.t.post.rel
  have m3 := En.mine_some e3
  obtain ⟨c', s3, mo3⟩ := r1.ownMo m3
  rw [s0] at s3
  cases s3
  have tb := RW.top r1 p1.rw e2
  split at e0
  · split at e0
    · rename_i hz
      cases e0
      obtain ⟨xs, h1, h2⟩ := mo3.lst_inv
      obtain ⟨l, ys, rfl, h3, h4⟩ := tb
      have kk := keeps_mut (o := .lst (xs ++ ys)) r1 m3 s0
      refine ⟨c, l, xs, ys, rfl, rfl, h1, h3, by rw [sizeLine_eq, ← h2.length, ← h4.length]; exact hz, ?_⟩
      have same : σ.set i (some (.ref c)) = σ := by
        obtain ⟨hl, e⟩ := List.getElem?_eq_some_iff.mp s0
        rw [← e, List.set_getElem_self]
      show E.nx (σ.set i (some (.ref c))) _
      rw [same]
      exact q σ _ F1 (p1.t.trans r0 (after_mut r1 m3 s0 (.mkL ((h2.keeps kk).append (h4.keeps kk))))).post
    · cases e0
  · cases e0
end

/-! ### d.get(k), d.get(k, x) -/
theorem _root_.L2.PE.or {X : Cx} {e : Expr} {t1 t2 : TE} (h1 : PE X e t1) (h2 : PE X e t2) : PE X e (fun σ H Q => t1 σ H Q ∨ t2 σ H Q) := ⟨fun pins s σ H Q I h => h.elim (h1.run pins s σ H Q I) (h2.run pins s σ H Q I)⟩
/-- a dict, and whether its keys are tuples -/
def W.isDict (w : W) (ρ : En) : Option Bool := match w.get ρ with
  | some (.dict kvs) => some (isT kvs)
  | _ => none
/-- what stands at a key -/
def dAt (tup : Bool) (a b : D) : Option (Option D) := match a with
  | .dict kvs => if isT kvs = tup then (if tup = true then (tOf b).map fun k => tLook kvs.tail k else (kOf b).map fun k => dLook kvs k) else none
  | _ => none
def dGet1 (fa fb : DE) : DE := fun ρ => (fa ρ).bind fun x => (x.1.isDict x.2).bind fun tup => (fb x.2).bind fun y => (x.1.get y.2).bind fun a => (y.1.get y.2).bind fun b => (dAt tup a b).map fun o => (.sh (o.getD .none), y.2)
def dGet2 (fa fb fc : DE) : DE := fun ρ => (fa ρ).bind fun x => (x.1.isDict x.2).bind fun tup => (fb x.2).bind fun y => (fc y.2).bind fun z => (x.1.get z.2).bind fun a => (y.1.get z.2).bind fun b => (dAt tup a b).map fun o => match o with
  | some d => (.sh d, z.2)
  | none => z
section
variable {X : Cx} {o e f : Expr} {apos cpos : Pos} {fa fb fc : DE}
theorem isDict_at {g : G} {F : Rg} {ρ : En} {σ : St} {H : Hp} {v : V} {w : W} {tup : Bool} (r : Rel g F ρ σ H) (h : RW g F ρ σ H v w) (e : w.isDict ρ = some tup) : ∃ a, v = .ref a ∧ ((tup = false ∧ IsD H a) ∨ (tup = true ∧ TIsD g.K H a)) := by
  unfold W.isDict at e
  split at e
  · rename_i kvs hk
    cases e
    have t := RW.top r h hk
    cases hT : isT kvs with
    | false =>
      obtain ⟨a, ks, rfl, h1, _⟩ := t.dik hT
      exact ⟨a, rfl, .inl ⟨rfl, .inl ⟨ks, h1⟩⟩⟩
    | true =>
      obtain ⟨a, ks, rfl, h1, h2⟩ := t.dit hT
      exact ⟨a, rfl, .inr ⟨rfl, ks, h1, h2.keys⟩⟩
  · cases e
/-- the reading of a key -/
theorem dAt_read {K : PySem.W.Frag} {F : Rg} {H : Hp} {tup : Bool} {a b : D} {oo : Option D} {c : Addr} {y : V} (t1 : Dtop K F H a (.ref c)) (t2 : Dtop K F H b y) (e : dAt tup a b = some oo) :
    ∃ ov : Option V, ((tup = false ∧ DGet H c y ov) ∨ (tup = true ∧ TGet K H c y ov)) ∧ ((oo = none ∧ ov = none) ∨ ∃ d v, oo = some d ∧ ov = some v ∧ Dt K F H d v) := by
  cases a with
  | dict kvs =>
    have e : (if isT kvs = tup then (if tup = true then (tOf b).map fun k => tLook kvs.tail k else (kOf b).map fun k => dLook kvs k) else none) = some oo := e
    by_cases hT : isT kvs = tup
    · rw [if_pos hT] at e
      cases tup with
      | true =>
        rw [if_pos rfl] at e
        obtain ⟨k, e6, rfl⟩ := Option.map_eq_some_iff.mp e
        obtain ⟨c', ks, ec, h1, h2⟩ := t1.dit hT
        cases ec
        obtain ⟨b', rfl, hs⟩ := tOf_val e6 t2
        rcases h2.get h1 hs with ⟨z1, z2⟩ | ⟨d, v, z1, z2, hv⟩
        · exact ⟨none, .inr ⟨rfl, z2⟩, .inl ⟨z1, rfl⟩⟩
        · exact ⟨some v, .inr ⟨rfl, z2⟩, .inr ⟨d, v, z1, rfl, hv⟩⟩
      | false =>
        rw [if_neg Bool.false_ne_true] at e
        obtain ⟨k, e6, rfl⟩ := Option.map_eq_some_iff.mp e
        obtain ⟨c', ks, ec, h1, h2⟩ := t1.dik hT
        cases ec
        have := kOf_val e6 t2
        subst this
        rcases h2.look k with ⟨z1, z2⟩ | ⟨d, v, z1, z2, hv⟩
        · exact ⟨none, .inl ⟨rfl, .inl ⟨ks, k, h1, rfl, z2.symm⟩⟩, .inl ⟨z1, rfl⟩⟩
        · exact ⟨some v, .inl ⟨rfl, .inl ⟨ks, k, h1, rfl, z2.symm⟩⟩, .inr ⟨d, v, z1, rfl, hv⟩⟩
    · rw [if_neg hT] at e
      cases e
  | _ => cases e
theorem ped_get1 (hu : X.A.units + 1 < cLine) (ho : PED X o fa) (he : PED X e fb) (m : M1 X o "get" apos e cpos := by exact ⟨rfl, rfl, rfl, rfl⟩) : PED X (.Call (.Attribute o "get" apos) [e] [] cpos) (dGet1 fa fb) := fun g hg => ((pe_dget1 hu (ho g hg) (he g hg) m).or (pe_tget1 hu (ho g hg) (he g hg) m)).wk fun σ H Q t => by
  obtain ⟨F, ρ, r0, w, ρ', e0, q⟩ := t
  obtain ⟨⟨x, ρ1⟩, e1, e0⟩ := Option.bind_eq_some_iff.mp e0
  obtain ⟨tup, hd, e0⟩ := Option.bind_eq_some_iff.mp e0
  obtain ⟨⟨y, ρ2⟩, e2, e0⟩ := Option.bind_eq_some_iff.mp e0
  obtain ⟨a, e4, e0⟩ := Option.bind_eq_some_iff.mp e0
  obtain ⟨b, e5, e0⟩ := Option.bind_eq_some_iff.mp e0
  obtain ⟨oo, e6, e0⟩ := Option.map_eq_some_iff.mp e0
  cases e0
  cases tup with
  | false =>
    refine .inl ⟨F, ρ, r0, x, ρ1, e1, fun v H1 F1 p1 => ?_⟩
    have r1 := p1.t.post.rel
    obtain ⟨c, rfl, dd⟩ := isDict_at r1 p1.rw hd
    rcases dd with ⟨_, d1⟩ | ⟨z, _⟩
    · refine ⟨c, rfl, d1, F1, ρ1, r1, y, ρ2, e2, fun v2 H2 F2 p2 => ?_⟩
      have r2 := p2.t.post.rel
      obtain ⟨ov, g1, g2⟩ := dAt_read (RW.top r2 (p1.rw.step r1 p2.t) e4) (RW.top r2 p2.rw e5) e6
      rcases g1 with ⟨_, g1⟩ | ⟨z, _⟩
      · refine ⟨ov, g1, q _ H2 F2 (EPo.then r0 (p1.t.trans r0 p2.t) (EPo.val r2 ?_))⟩
        rcases g2 with ⟨rfl, rfl⟩ | ⟨d, v, rfl, rfl, hv⟩
        · exact .non
        · exact hv
      · cases z
    · cases z
  | true =>
    refine .inr ⟨F, ρ, r0, x, ρ1, e1, fun v H1 F1 p1 => ?_⟩
    have r1 := p1.t.post.rel
    obtain ⟨c, rfl, dd⟩ := isDict_at r1 p1.rw hd
    rcases dd with ⟨z, _⟩ | ⟨_, d1⟩
    · cases z
    · refine ⟨c, rfl, hg ▸ d1, F1, ρ1, r1, y, ρ2, e2, fun v2 H2 F2 p2 => ?_⟩
      have r2 := p2.t.post.rel
      obtain ⟨ov, g1, g2⟩ := dAt_read (RW.top r2 (p1.rw.step r1 p2.t) e4) (RW.top r2 p2.rw e5) e6
      rcases g1 with ⟨z, _⟩ | ⟨_, g1⟩
      · cases z
      · refine ⟨ov, hg ▸ g1, q _ H2 F2 (EPo.then r0 (p1.t.trans r0 p2.t) (EPo.val r2 ?_))⟩
        rcases g2 with ⟨rfl, rfl⟩ | ⟨d, v, rfl, rfl, hv⟩
        · exact .non
        · exact hv
theorem ped_get2 (hu : X.A.units + 1 < cLine) (ho : PED X o fa) (he : PED X e fb) (hf : PED X f fc) (m : M2 X o "get" apos e f cpos := by exact ⟨rfl, rfl, rfl, rfl⟩) : PED X (.Call (.Attribute o "get" apos) [e, f] [] cpos) (dGet2 fa fb fc) := fun g hg => ((pe_dget2 hu (ho g hg) (he g hg) (hf g hg) m).or (pe_tget2 hu (ho g hg) (he g hg) (hf g hg) m)).wk fun σ H Q t => by
  obtain ⟨F, ρ, r0, w, ρ', e0, q⟩ := t
  obtain ⟨⟨x, ρ1⟩, e1, e0⟩ := Option.bind_eq_some_iff.mp e0
  obtain ⟨tup, hd, e0⟩ := Option.bind_eq_some_iff.mp e0
  obtain ⟨⟨y, ρ2⟩, e2, e0⟩ := Option.bind_eq_some_iff.mp e0
  obtain ⟨⟨z, ρ3⟩, e3, e0⟩ := Option.bind_eq_some_iff.mp e0
  obtain ⟨a, e4, e0⟩ := Option.bind_eq_some_iff.mp e0
  obtain ⟨b, e5, e0⟩ := Option.bind_eq_some_iff.mp e0
  obtain ⟨oo, e6, e0⟩ := Option.map_eq_some_iff.mp e0
  cases tup with
  | false =>
    refine .inl ⟨F, ρ, r0, x, ρ1, e1, fun v H1 F1 p1 => ?_⟩
    have r1 := p1.t.post.rel
    obtain ⟨c, rfl, dd⟩ := isDict_at r1 p1.rw hd
    rcases dd with ⟨_, d1⟩ | ⟨z, _⟩
    · refine ⟨c, rfl, d1, F1, ρ1, r1, y, ρ2, e2, fun v2 H2 F2 p2 => ?_⟩
      have r2 := p2.t.post.rel
      refine ⟨F2, ρ2, r2, z, ρ3, e3, fun v3 H3 F3 p3 => ?_⟩
      have r3 := p3.t.post.rel
      have pp := p1.t.trans r0 p2.t
      obtain ⟨ov, g1, g2⟩ := dAt_read (RW.top r3 ((p1.rw.step r1 p2.t).step r2 p3.t) e4) (RW.top r3 (p2.rw.step r2 p3.t) e5) e6
      rcases g1 with ⟨_, g1⟩ | ⟨z, _⟩
      · refine ⟨ov, g1, ?_⟩
        rcases g2 with ⟨rfl, rfl⟩ | ⟨d, v, rfl, rfl, hv⟩
        · cases e0; exact q _ H3 F3 (EPo.then r0 pp p3)
        · cases e0; exact q _ H3 F3 (EPo.then r0 (pp.trans r0 p3.t) (EPo.val r3 hv))
      · cases z
    · cases z
  | true =>
    refine .inr ⟨F, ρ, r0, x, ρ1, e1, fun v H1 F1 p1 => ?_⟩
    have r1 := p1.t.post.rel
    obtain ⟨c, rfl, dd⟩ := isDict_at r1 p1.rw hd
    rcases dd with ⟨z, _⟩ | ⟨_, d1⟩
    · cases z
    · refine ⟨c, rfl, hg ▸ d1, F1, ρ1, r1, y, ρ2, e2, fun v2 H2 F2 p2 => ?_⟩
      have r2 := p2.t.post.rel
      refine ⟨F2, ρ2, r2, z, ρ3, e3, fun v3 H3 F3 p3 => ?_⟩
      have r3 := p3.t.post.rel
      have pp := p1.t.trans r0 p2.t
      obtain ⟨ov, g1, g2⟩ := dAt_read (RW.top r3 ((p1.rw.step r1 p2.t).step r2 p3.t) e4) (RW.top r3 (p2.rw.step r2 p3.t) e5) e6
      rcases g1 with ⟨z, _⟩ | ⟨_, g1⟩
      · cases z
      · refine ⟨ov, hg ▸ g1, ?_⟩
        rcases g2 with ⟨rfl, rfl⟩ | ⟨d, v, rfl, rfl, hv⟩
        · cases e0; exact q _ H3 F3 (EPo.then r0 pp p3)
        · cases e0; exact q _ H3 F3 (EPo.then r0 (pp.trans r0 p3.t) (EPo.val r3 hv))
end

end PD
set_option Elab.async false
set_option linter.all false
set_option maxRecDepth 100000
set_option maxHeartbeats 4000000
/-! PD14: x[::-1]; walks over dicts; sums of a dict's values. -/
namespace PD
set_option autoImplicit false
open PySem PySem.Spec L2
open PyProof.Rows hiding St

section
variable {prog : Program} {w : World} {A : Around} {E : Value → Shared → Prop} {s : Shared}
theorem places_back (n : Nat) : Builtin.Slice.slicePlaces ((n : Int) - 1) (-1) (-1) = n := by
  unfold Builtin.Slice.slicePlaces
  rw [if_neg (by omega)]
  by_cases h : (n : Int) - 1 > -1
  · rw [if_pos h]
    have : ((n : Int) - 1 - -1 - 1) / - -1 + 1 = n := by
      rw [show - -(1 : Int) = 1 from rfl, Int.ediv_one]; omega
    rw [this, Int.toNat_natCast]
  · rw [if_neg h]
    have : n = 0 := by omega
    rw [this]; rfl
theorem applied_back {sl : Addr} {n : Nat} {t : Tok} {Q : Int × Int × Nat → Shared → Prop} (hs : s.heap.IsSliceOf sl .none .none (.int (-1) t)) (h : Q ((n : Int) - 1, -1, n) s) :
    wpAny (model prog w) A (Builtin.Slice.sliceApplied (.ref sl) (pure (n : Int))) Q E s := by
  obtain ⟨os, hos, hcs, hds⟩ := id hs
  unfold Builtin.Slice.sliceApplied Builtin.Slice.sliceFields
  refine wpAny_bind (wpAny_bind (wpAny_field hos hds (x := .none) rfl (wpAny_bind (wpAny_field hos hds (x := .none) rfl (wpAny_bind (wpAny_field hos hds (x := .int (-1) t) rfl (wpAny_pure ?_)))))))
  refine wpAny_bind (slicePart_int ?_)
  show wpAny _ _ (if ((-1 : Int) == 0) = true then _ else _) _ _ s
  rw [if_neg (by decide)]
  refine wpAny_bind (slicePart_none (wpAny_bind (slicePart_none (wpAny_bind (wpAny_pure ?_)))))
  show wpAny _ _ (pure ((n : Int) - 1, (-1 : Int), Builtin.Slice.slicePlaces ((n : Int) - 1) (-1) (-1))) _ _ s
  rw [places_back]
  exact wpAny_pure h
theorem fm_map {α β : Type} {f : α → Option β} {k : α → β} : ∀ {l : List α}, (∀ x ∈ l, f x = some (k x)) → l.filterMap f = l.map k
  | [], _ => rfl
  | x :: l, h => by
    rw [List.filterMap_cons, h x List.mem_cons_self, List.map_cons, fm_map fun y hy => h y (List.mem_cons_of_mem _ hy)]
theorem pick_back (xs : Array Value) : ((List.range xs.size).filterMap fun (m : Nat) => xs[(((xs.size : Int) - 1) + (m : Int) * -1).toNat]?).toArray = xs.toList.reverse.toArray := by
  congr 1
  have key : ∀ (l : List Value), ((List.range l.length).filterMap fun (m : Nat) => l[((l.length : Int) - 1 + (m : Int) * -1).toNat]?) = l.reverse := by
    intro l
    apply List.ext_getElem?
    intro i
    have e : ((List.range l.length).filterMap fun (m : Nat) => l[((l.length : Int) - 1 + (m : Int) * -1).toNat]?) = (List.range l.length).map fun m => l.getD (l.length - 1 - m) .none := by
      refine fm_map fun m hm => ?_
      have hm := List.mem_range.mp hm
      have e1 : ((l.length : Int) - 1 + (m : Int) * -1).toNat = l.length - 1 - m := by omega
      rw [e1]
      rw [List.getD_eq_getElem?_getD, List.getElem?_eq_getElem (by omega)]
      rfl
    rw [e, List.getElem?_map]
    by_cases hi : i < l.length
    · rw [List.getElem?_range hi, List.getElem?_reverse hi]
      show some (l.getD _ _) = _
      rw [List.getD_eq_getElem?_getD, List.getElem?_eq_getElem (by omega)]
      rfl
    · rw [List.getElem?_eq_none (by simpa using hi), List.getElem?_eq_none (by simpa using hi)]
      rfl
  have h := key xs.toList
  rw [Array.length_toList] at h
  rw [← h]
  refine congrArg (fun f => List.filterMap f (List.range xs.size)) (funext fun m => ?_)
  rw [Array.getElem?_toList]
theorem getItem_tuple_back {t sl : Addr} {items : Array Value} {u : Tok} {Q : Value → Shared → Prop} (ht : IsTup s.heap t items) (hs : s.heap.IsSliceOf sl .none .none (.int (-1) u))
    (h : Q (.ref s.heap.objs.size) { s with heap := s.heap.push { cls := .type "tuple", data := .seq items.toList.reverse.toArray } })
    (hsz : items.size ≤ sizeLine) : wpAny (model prog w) A (getItem (.ref t) (.ref sl)) Q E s := by
  have htake : sizeOk (.seq items.toList.reverse.toArray) := by
    show items.toList.reverse.toArray.size ≤ sizeLine
    rw [List.size_toArray, List.length_reverse, Array.length_toList]
    exact hsz
  obtain ⟨os, hos, hcs, hds⟩ := id hs
  have hTs : s.TypeIs (.ref sl) "slice" := ⟨os, hos, hcs⟩
  unfold getItem
  try with_reducible refine wpAny_holding ?_
  first | refine wpAny_bind (wpAny_pure ?_) | skip
  refine wpAny_bind (wpAny_sequenceKey ht.typeIs (by decide) ?_)
  refine wpAny_bind (wpAny_callSpecial?_slot (name := Str.ofString "__getitem__") ht.typeIs PyProof.Rows.slot_tuple_getitem
    (wpAny_call_entry PyProof.Rows.slot_tuple_getitem ht.typeIs PyProof.Rows.entry_tuple_getitem ?_ (PyProof.Rows.args_tuple_getitem _ _)))
  show wpAny _ _ (Builtin.Tuple.tupleItemsOf (.ref t) >>= _) _ _ s
  refine wpAny_bind (PyProof.Rows.tupleItemsOf_ ht ?_)
  refine wpAny_bind (wpAny_typeOf hTs ?_)
  rw [if_pos (by decide)]
  refine wpAny_bind (applied_back hs ?_)
  have hno : ¬ ((((items.size : Int) - 1) == 0 && (-1 : Int) == 1 && items.size == items.size) = true) := by
    intro q
    rw [Bool.and_eq_true, Bool.and_eq_true] at q
    exact absurd q.1.2 (by decide)
  show wpAny _ _ (if ((((items.size : Int) - 1) == 0 && (-1 : Int) == 1 && items.size == items.size) = true) then _ else _) _ _ s
  rw [if_neg hno, pick_back]
  first
    | exact wpAny_bind (m := Builtin.Tuple.tupleExact _) (wpAny_newObj_type (wpAny_pure ⟨_, rfl, wpAny_pure h⟩) htake)
    | exact wpAny_bind (m := Builtin.Tuple.tupleExact _) (wpAny_newObj_type (wpAny_bind (wpAny_pure (wpAny_pure ⟨_, rfl, wpAny_pure h⟩))) htake)
    | exact wpAny_bind (wpAny_bind (m := Builtin.Tuple.tupleExact _) (wpAny_newObj_type (wpAny_pure (wpAny_pure ⟨_, rfl, wpAny_pure h⟩)) htake))
    | exact wpAny_bind (wpAny_bind (m := Builtin.Tuple.tupleExact _) (wpAny_newObj_type (wpAny_pure ⟨_, rfl, wpAny_pure h⟩) htake))
end

/-! ### x[::-1] -/
section
variable {X : Cx}
def tRevA (K : PySem.W.Frag) (te : TE) : TE := fun σ H Q => te σ H fun x H1 => (∃ a xs, x = .ref a ∧ SqL K H1 a xs ∧ ∀ p, H1 p = none → Q (.ref p) (upd H1 p (.lst xs.reverse))) ∨ ∃ a xs, x = .ref a ∧ SqT K H1 a xs ∧ ∀ p, H1 p = none → Q (.ref p) (upd H1 p (.tup xs.reverse))
theorem pe_revA {e : Expr} {te : TE} {k : Nat} {p1 p2 p3 pos : Pos} (he : PE X e te) : PE X (.Subscript e (.Slice none none (some (.UnaryOp .USub (.Constant (.int 1) k p1) p2)) p3) pos) (tRevA X.K te) := by
  refine ⟨fun pins s σ H Q I h => ?_⟩
  refine Subscript_ (thn (he.run pins s σ H _ I h) fun v s1 ⟨x, H1, I1, r1, q1⟩ => ?_)
  obtain ⟨a, xs, ex, q5⟩ : ∃ (a : Addr) (xs : List V), x = .ref a ∧ ((SqL X.K H1 a xs ∧ ∀ p, H1 p = none → Q (.ref p) (upd H1 p (.lst xs.reverse))) ∨ (SqT X.K H1 a xs ∧ ∀ p, H1 p = none → Q (.ref p) (upd H1 p (.tup xs.reverse)))) := by
    rcases q1 with ⟨a, xs, e, h⟩ | ⟨a, xs, e, h⟩
    · exact ⟨a, xs, e, .inl h⟩
    · exact ⟨a, xs, e, .inr h⟩
  subst ex
  cases r1
  have minus : PO X (some (.UnaryOp .USub (.Constant (.int 1) k p1) p2)) (tPart (tUn (rU fun i => .int (-i)) (tC (.int 1)))) := po_some (pe_un un_neg pe_int)
  refine wpAny_Slice (thn (po_none.run pins s1 σ H1 (fun o H2 => o = none ∧ H2 = H1) I1 ⟨rfl, rfl⟩) fun vl s2 ⟨l, H2, I2, pl, el, e2⟩ => ?_)
  subst el e2
  refine thn (po_none.run pins s2 σ H2 (fun o H3 => o = none ∧ H3 = H2) I2 ⟨rfl, rfl⟩) fun vu s3 ⟨u, H3, I3, pu, eu, e3⟩ => ?_
  subst eu e3
  refine thn (minus.run pins s3 σ H3 (fun o H4 => o = some (-1) ∧ H4 = H3) I3 ⟨1, rfl, -1, rfl, rfl, rfl⟩) fun vs s4 ⟨o, H4, I4, ps, eo, e4⟩ => ?_
  subst eo e4
  have I5 : Inv X pins σ H4 { s4 with heap := s4.heap.push { cls := .type "slice", data := .fields #[vl, vu, vs] } } := I4.kept (t' := s4.toks) fun b ob q => Heap.get?_push_of_some _ q
  show wpAny (model X.prog X.w) X.A (subscriptTail e (.Slice none none (some (.UnaryOp .USub (.Constant (.int 1) k p1) p2)) p3) (.ref a) (.ref s4.heap.objs.size)) (EP X pins σ Q) X.xe { s4 with heap := s4.heap.push { cls := .type "slice", data := .fields #[vl, vu, vs] } }
  rcases q5 with ⟨hx, q⟩ | ⟨hx, q⟩
  · obtain ⟨its, r, ht, hz⟩ := I5.list hx
    have hlen := r.length
    refine tail_any (ops := [.ref a, .ref s4.heap.objs.size]) ht.isList.typeIs (PySem.slot_list_getitem.lookup) ?_ (by with_unfolding_all rfl)
    refine wpAny_getItem_list_slice ht.isList (Heap.IsSliceOf.new _ vl vu vs) pl pu ps (by decide) ?_ (by rw [List.size_toArray]; omega)
    rw [PySem.W.krv_pick]
    refine ⟨.ref _, _, I5.laid (t' := s4.toks) (o := .lst xs.reverse) (fun b ob q => Heap.get?_push_of_some _ q) (Nat.le_refl _) ?_, rfl, q _ (I5.hok.fresh (Nat.le_refl _))⟩
    exact ⟨by rw [List.length_reverse]; exact hz, _, 0, r.reverse, Heap.get?_push_size _ rfl⟩
  · obtain ⟨its, r, ht, hz⟩ := I5.tuple hx
    have hlen := r.length
    cases pl
    cases pu
    cases ps
    refine tail_any (ops := [.ref a, .ref s4.heap.objs.size]) ht.typeIs PyProof.Rows.slot_tuple_getitem.lookup ?_ (by with_unfolding_all rfl)
    refine getItem_tuple_back ht (Heap.IsSliceOf.new _ _ _ _) ?_ (by rw [List.size_toArray]; omega)
    refine ⟨.ref _, _, I5.laid (t' := s4.toks) (o := .tup xs.reverse) (fun b ob q => Heap.get?_push_of_some _ q) (Nat.le_refl _) ?_, rfl, q _ (I5.hok.fresh (Nat.le_refl _))⟩
    exact ⟨by rw [List.length_reverse]; exact hz, _, r.reverse, IsTup.new _ _⟩
def bRev : D → Option W
  | .list xs => some (.fr (.list xs.reverse))
  | .tuple xs => some (.sh (.tuple xs.reverse))
  | _ => none
theorem ped_rev {e : Expr} {fa : DE} {k : Nat} {p1 p2 p3 pos : Pos} (ha : PED X e fa) : PED X (.Subscript e (.Slice none none (some (.UnaryOp .USub (.Constant (.int 1) k p1) p2)) p3) pos) (dB1 bRev fa) := fun g hg => (pe_revA (ha g hg)).wk fun σ H Q t => by
  obtain ⟨F, ρ, r0, w, ρ', e, q⟩ := t
  obtain ⟨⟨x, ρ1⟩, e1, e⟩ := Option.bind_eq_some_iff.mp e
  obtain ⟨d, e2, e⟩ := Option.bind_eq_some_iff.mp e
  obtain ⟨w', e3, e⟩ := Option.map_eq_some_iff.mp e
  cases e
  refine ⟨F, ρ, r0, x, ρ1, e1, fun v H1 F1 p1 => ?_⟩
  have r1 := p1.t.post.rel
  have tp := RW.top r1 p1.rw e2
  have fin : ∀ v' H', NewR g.K F1 H1 v' H' w → Q v' H' := fun v' H' n => q v' H' F1 (EPo.then r0 p1.t (n.epo r1))
  unfold bRev at e3
  split at e3
  · cases e3
    obtain ⟨b, xs, rfl, h1, d1⟩ := tp
    exact .inl ⟨b, xs, rfl, .inl h1, fun p hp => fin _ _ (.lst hp d1.reverse)⟩
  · cases e3
    obtain ⟨b, xs, rfl, h1, d1⟩ := tp.tup_inv
    exact .inr ⟨b, xs, rfl, hg ▸ h1, fun p hp => fin _ _ (.tup hp d1.reverse)⟩
  · cases e3
end

/-! ### sum(d.values()) -/
section
variable {X : Cx} {o : Expr} {p pos apos mpos : Pos} {td : TE}
def tSumVals (td : TE) : TE := fun σ H Q => td σ H fun x H1 => ∃ (a : Addr) (kvs : List (Key × V)) (is : List Int), x = V.ref a ∧ Rd H1 a (.dK kvs) ∧ kvs.map (·.2) = is.map V.int ∧ Q (.int is.sum) H1
theorem preSum_list (ns : List Int) : preSum (fun i => ns.getD i 0) ns.length = ns.sum := by
  have key : ∀ (k : Nat), k ≤ ns.length → preSum (fun i => ns.getD i 0) k = (ns.take k).sum := by
    intro k
    induction k with
    | zero => intro _; rfl
    | succ k ih =>
      intro hk
      rw [PyProof.Rows.take_sum_succ ns k (by omega), ← ih (by omega)]
      rfl
  rw [key _ (Nat.le_refl _), List.take_length]
theorem pe_sumVals (hc : X.calm = true) (hg : Gl X "sum") (hm : X.mg "sum" = none) (hd : PE X o td) (hbase : attributeBase o "values" X.env (eval o X.env) = eval o X.env := by rfl) (hline : (apos.endLine == mpos.line) = true := by rfl)
    (hse : starEach [Expr.Call (.Attribute o "values" apos) [] [] mpos] X.env = [(false, eval (Expr.Call (.Attribute o "values" apos) [] [] mpos) X.env)] := by rfl) :
    PE X (.Call (.Name "sum" p) [.Call (.Attribute o "values" apos) [] [] mpos] [] pos) (tSumVals td) := by
  refine ⟨fun pins s σ H Q I h => ?_⟩
  refine wpAny_Call_Name_kw (ld_blt I hg hm (u := .builtin "sum") (by first | rfl | decide +kernel) ?_ (by first | decide +kernel | decide) (by first | decide +kernel | decide))
  rw [hse]
  refine PySem.callWith_builtin1 (wpAny_Call_method0_late hbase hline (thn (hd.run pins s σ H _ I h) fun v s1 ⟨x, H1, I1, r1, a, kvs, is, ex, ha, hv, q⟩ => ?_))
  subst ex
  obtain rfl : v = Value.ref a := r1
  obtain ⟨_, notSys, vs, rel, dof⟩ := dk_rd I1.hok ha
  obtain ⟨ep, dat⟩ := dof.dictAt
  have dat' := dat
  obtain ⟨ob, es, ho, ex, hdat, hko, hpr, hnd⟩ := dat'
  refine ⟨"dict", "dict.values", F.plainAttrs_dict, F.slot_dict_values, F.type_dict_values, ⟨ob, ho, ex.1⟩, fun b e => ?_, Calls.callWith_builtin rfl (PySem.evalArgs_none ?_)⟩
  · cases e
    exact ⟨ob, ho, ex.2.1⟩
  refine call_meetsIn F.slot_dict_values ⟨ob, ho, ex.1⟩ F.entry_dict_values (F.args_dict_values_1 _) (meets_dict_values (mixKind X.prog X.w) a notSys) ⟨⟨vs, dof⟩, ?_⟩
  have k1 : ∀ b u, s1.heap.get? b = some u → (s1.heap.push { cls := .type "dict_values", data := .fields #[.ref a] }).get? b = some u := fun b u e => Heap.get?_push_of_some _ e
  have dat1 : (s1.heap.push { cls := .type "dict_values", data := .fields #[.ref a] }).DictAt (mixKind X.prog X.w) a vs ep := dat.keep k1
  have many : vs.length = is.length := by
    have e1 := congrArg List.length hv
    rw [List.length_map, List.length_map] at e1
    rw [← e1]
    exact (KV.length rel).symm
  have each : ∀ (i : Nat) (v : Value), (∃ k, vs[i]? = some (k, v)) → ∃ t, v = Value.int (is.getD i 0) t := fun i v ⟨k, hk⟩ => by
    obtain ⟨x, h1, h2⟩ := KV.at' rel hk
    have e1 : (kvs.map (·.2))[i]? = some x := by rw [List.getElem?_map, h1] <;> rfl
    rw [hv, List.getElem?_map] at e1
    obtain ⟨j, hj, e2⟩ := Option.map_eq_some_iff.mp e1
    subst e2
    obtain ⟨t, e3⟩ := h2
    refine ⟨t, ?_⟩
    rw [e3, List.getD_eq_getElem?_getD, hj] <;> rfl
  refine call_sum_walkG (wpAny_pyIter_values (v := s1.heap.objs.size) (d := a) ⟨_, Heap.get?_push_size _ rfl, rfl, rfl⟩ dat1 ?_)
  have below : a < s1.heap.objs.size := Heap.lt_size ho
  have more : (s1.heap.push { cls := .type "dict_values", data := .fields #[.ref a] }).objs.size = s1.heap.objs.size + 1 := Heap.size_push _ _
  refine ⟨_, _, _, _, _, _, fun i => is.getD i 0, rfl, Walks.dictValues (knd := mixKind X.prog X.w) (A := X.A.in1) (I.ok.hd hc) (s1.heap.push { cls := .type "dict_values", data := .fields #[.ref a] }).objs.size a (by rw [more]; exact Nat.ne_of_lt (Nat.lt_succ_of_lt below)) vs ep,
    ⟨⟨_, Heap.get?_push_size _ rfl, rfl, rfl⟩, dat1.keep fun b u e => Heap.get?_push_of_some _ e⟩, fun b hb => ?_, each, fun h' tk t' hk => ?_⟩
  · show b < ((s1.heap.push _).push _).objs.size
    rw [Heap.size_push, Heap.size_push]
    rw [more] at hb
    rcases List.mem_cons.mp hb with e | hb
    · rw [e]
      exact Nat.lt_succ_self _
    · have e : b = a := List.mem_singleton.mp hb
      rw [e]
      exact Nat.lt_succ_of_lt (Nat.lt_succ_of_lt below)
  · rw [many, preSum_list]
    refine ⟨.int _, H1, I1.kept (t' := tk) fun b u e => hk b u (fun hmem => ?_) (Heap.get?_push_of_some _ (k1 b u e)), ⟨t', rfl⟩, q⟩
    have e1 : b = (s1.heap.push { cls := .type "dict_values", data := .fields #[.ref a] }).objs.size := List.mem_singleton.mp hmem
    have e2 := Heap.lt_size e
    rw [more] at e1
    rw [e1] at e2
    exact absurd e2 (Nat.not_lt.mpr (Nat.le_succ _))
def bSumVals : D → Option W
  | .dict kvs => (ints? (kvs.map (·.2))).map fun ns => .sh (.int ns.sum)
  | _ => none
theorem Dkv.vals {K : PySem.W.Frag} {F : Rg} {H : Hp} : ∀ {kvs : List (D × D)} {ks : List (Key × V)}, Dkv K F H kvs ks → Dts K F H (kvs.map (·.2)) (ks.map (·.2))
  | _, _, .nil => .nil
  | _, _, .cons h t => .cons h (Dkv.vals t)
theorem ped_sumVals {fa : DE} (hc : X.calm = true) (hG : Gl X "sum") (hm : X.mg "sum" = none) (ha : PED X o fa) (hbase : attributeBase o "values" X.env (eval o X.env) = eval o X.env := by rfl) (hline : (apos.endLine == mpos.line) = true := by rfl)
    (hse : starEach [Expr.Call (.Attribute o "values" apos) [] [] mpos] X.env = [(false, eval (Expr.Call (.Attribute o "values" apos) [] [] mpos) X.env)] := by rfl) :
    PED X (.Call (.Name "sum" p) [.Call (.Attribute o "values" apos) [] [] mpos] [] pos) (dB1 bSumVals fa) := fun g hg => (pe_sumVals hc hG hm (ha g hg) hbase hline hse).wk fun σ H Q t => by
  obtain ⟨F, ρ, r0, w, ρ', e, q⟩ := t
  obtain ⟨⟨x, ρ1⟩, e1, e⟩ := Option.bind_eq_some_iff.mp e
  obtain ⟨d, e2, e⟩ := Option.bind_eq_some_iff.mp e
  obtain ⟨w', e3, e⟩ := Option.map_eq_some_iff.mp e
  cases e
  refine ⟨F, ρ, r0, x, ρ1, e1, fun v H1 F1 p1 => ?_⟩
  have r1 := p1.t.post.rel
  have tp := RW.top r1 p1.rw e2
  cases d with
  | dict kvs0 =>
    obtain ⟨ns, e4, e3⟩ := Option.map_eq_some_iff.mp (show (ints? (kvs0.map (·.2))).map (fun ns => W.sh (.int ns.sum)) = some _ from e3)
    cases e3
    have hT : isT kvs0 = false := by
      cases hT : isT kvs0 with
      | false => rfl
      | true =>
        obtain ⟨l, rfl⟩ := isT_iff.mp hT
        cases e4
    obtain ⟨b, ks, rfl, h1, d1⟩ := tp.dik hT
    have dv := d1.vals
    rw [ints?_some e4] at dv
    exact ⟨b, ks, ns, rfl, h1, dv.ints, q _ _ F1 (EPo.then r0 p1.t (EPo.val r1 (.int _)))⟩
  | _ => cases e3
end
end PD
set_option Elab.async false
set_option linter.all false
set_option maxRecDepth 100000
set_option maxHeartbeats 4000000
/-! PD15: walks over a dict that is named: locked while it is walked. -/
namespace PD
set_option autoImplicit false
open PySem PySem.Spec L2
open PyProof.Rows hiding St

theorem nfz_lst {xs : List V} (o : Obj) (x : HO) : HO.lst xs ≠ .frz o x := fun z => nomatch z
theorem nfz_td {a : Addr} {es : List TE3} (o : Obj) (x : HO) : tdO a es ≠ .frz o x := fun z => nomatch z
theorem nfz_dK {xs : List (Key × V)} (o : Obj) (x : HO) : HO.dK xs ≠ .frz o x := fun z => nomatch z
/-- readings that stay over locking and unlocking a dict -/
structure KeepsW (K : PySem.W.Frag) (F F' : Rg) (H H' : Hp) : Prop where
  inn : ∀ a, F a → F' a
  sqt : ∀ a xs, SqT K H a xs → SqT K H' a xs
  obj : ∀ b u, F b → (∀ o x, u ≠ .frz o x) → Rd H b u → Rd H' b u
section
variable {K : PySem.W.Frag} {F F' : Rg} {H H' : Hp}
mutual
theorem Dt.keepsW (k : KeepsW K F F' H H') : ∀ {d : D} {v : V}, Dt K F H d v → Dt K F' H' d v
  | _, _, .non => .non
  | _, _, .bl b => .bl b
  | _, _, .int i => .int i
  | _, _, .str x => .str x
  | _, _, .lst f r ds => .lst (k.inn _ f) (k.obj _ _ f nfz_lst r) (Dts.keepsW k ds)
  | _, _, .tup r ds => .tup (k.sqt _ _ r) (Dts.keepsW k ds)
  | _, _, .dik f r ds => .dik (k.inn _ f) (k.obj _ _ f nfz_dK r) (Dkv.keepsW k ds)
  | _, _, .dit f r ds => .dit (k.inn _ f) (k.obj _ _ f nfz_td r) (Dkt.keepsW k ds)
theorem Dts.keepsW (k : KeepsW K F F' H H') : ∀ {ds : List D} {vs : List V}, Dts K F H ds vs → Dts K F' H' ds vs
  | _, _, .nil => .nil
  | _, _, .cons h t => .cons (Dt.keepsW k h) (Dts.keepsW k t)
theorem Dkv.keepsW (k : KeepsW K F F' H H') : ∀ {ds : List (D × D)} {vs : List (Key × V)}, Dkv K F H ds vs → Dkv K F' H' ds vs
  | _, _, .nil => .nil
  | _, _, .cons h t => .cons (Dt.keepsW k h) (Dkv.keepsW k t)
theorem Dkt.keepsW (k : KeepsW K F F' H H') : ∀ {ds : List (D × D)} {vs : List TE3}, Dkt K F H ds vs → Dkt K F' H' ds vs
  | _, _, .nil => .nil
  | _, _, .cons s h r t => .cons (k.sqt _ _ s) (Dt.keepsW k h) r (Dkt.keepsW k t)
end
theorem Mo.keepsW {d : D} {a : Addr} (k : KeepsW K F F' H H') (e : ∀ o, H a = some o → H' a = some o) (h : Mo K F H d a) : Mo K F' H' d a := by
  rcases h with ⟨ds, xs, h1, h2, h3⟩ | ⟨ds, xs, h1, h2, h3⟩ | ⟨ds, xs, h1, h2, h3⟩
  · exact .inl ⟨ds, xs, h1, e _ h2, h3.keepsW k⟩
  · exact .inr (.inl ⟨ds, xs, h1, e _ h2, h3.keepsW k⟩)
  · exact .inr (.inr ⟨ds, xs, h1, e _ h2, h3.keepsW k⟩)
/-- a dict's object -/
def DObj (u : HO) : Prop := (∃ ks, u = .dK ks) ∨ ∃ a es, u = tdO a es
theorem DObj.ntup {u : HO} (h : DObj u) : ∀ xs, u ≠ .tup xs := by
  rcases h with ⟨ks, rfl⟩ | ⟨a, es, rfl⟩ <;> exact fun _ z => nomatch z
theorem DObj.mut {u : HO} (h : DObj u) : Mut (some u) := by
  rcases h with ⟨ks, rfl⟩ | ⟨a, es, rfl⟩ <;> exact trivial
theorem DObj.nfrz {u : HO} (h : DObj u) : ∀ o v, u ≠ .frz o v := by
  rcases h with ⟨ks, rfl⟩ | ⟨a, es, rfl⟩ <;> exact fun _ _ z => nomatch z
theorem keepsW_lock {d : Addr} {od : Obj} {uo : HO} (du : DObj uo) (hd : H d = some uo) : KeepsW K F F H (upd H d (.frz od uo)) where
  inn := fun _ h => h
  sqt := fun a xs h => by
    have ne : ∀ u, H a = some u → u ≠ uo → a ≠ d := fun u e n z => by subst z; rw [hd] at e; cases e; exact n rfl
    rcases h with (h | ⟨o, h⟩) | h
    · exact .inl (.inl (by rw [upd_ne (ne _ h fun z => du.ntup _ z.symm)]; exact h))
    · exact .inl (.inr ⟨o, by rw [upd_ne (ne _ h fun z => du.nfrz _ _ z.symm)]; exact h⟩)
    · exact .inr h
  obj := fun b u _ nu h => by
    by_cases z : b = d
    · subst z
      rcases h with h | ⟨o, h⟩
      · rw [hd] at h; cases h
        exact .inr ⟨od, upd_same⟩
      · rw [hd] at h; cases h
        exact absurd rfl (du.nfrz _ _)
    · rcases h with h | ⟨o, h⟩
      · exact .inl (by rw [upd_ne z]; exact h)
      · exact .inr ⟨o, by rw [upd_ne z]; exact h⟩
theorem keepsW_unlock {d : Addr} {od : Obj} {uo : HO} (du : DObj uo) (hd : H d = some (.frz od uo)) : KeepsW K F F H (upd H d uo) where
  inn := fun _ h => h
  sqt := fun a xs h => by
    have ne : ∀ u, H a = some u → u ≠ .frz od uo → a ≠ d := fun u e n z => by subst z; rw [hd] at e; cases e; exact n rfl
    rcases h with (h | ⟨o, h⟩) | h
    · exact .inl (.inl (by rw [upd_ne (ne _ h fun z => nomatch z)]; exact h))
    · exact .inl (.inr ⟨o, by rw [upd_ne (ne _ h fun z => du.ntup _ (by cases z; rfl))]; exact h⟩)
    · exact .inr h
  obj := fun b u _ nu h => by
    by_cases z : b = d
    · subst z
      rcases h with h | ⟨o, h⟩
      · rw [hd] at h; cases h
        exact absurd rfl (nu _ _)
      · rw [hd] at h; cases h
        exact .inl upd_same
    · rcases h with h | ⟨o, h⟩
      · exact .inl (by rw [upd_ne z]; exact h)
      · exact .inr ⟨o, by rw [upd_ne z]; exact h⟩
end

open Classical in
/-- the entry heap with the dict at d locked -/
noncomputable def lockG (g : G) (d : Addr) (u : HO) : G := { g with H0 := fun a => if a = d ∧ g.H0 d ≠ none then some u else g.H0 a }
section
variable {g : G} {F F' : Rg} {ρ ρ' ρ1 : En} {σ σ' : St} {H H' : Hp} {d : Addr} {od : Obj} {uo : HO}
theorem lockG_none {u : HO} {a : Addr} : (lockG g d u).H0 a = none ↔ g.H0 a = none := by
  unfold lockG
  simp only
  by_cases h : a = d ∧ g.H0 d ≠ none
  · rw [if_pos h]
    exact ⟨(fun z => nomatch z), fun z => absurd (h.1 ▸ z) h.2⟩
  · rw [if_neg h]
theorem lockG_at {u o : HO} {a : Addr} (h : (lockG g d u).H0 a = some o) : (a = d ∧ o = u ∧ g.H0 d ≠ none) ∨ (a ≠ d ∧ g.H0 a = some o) := by
  unfold lockG at h
  simp only at h
  by_cases z : a = d ∧ g.H0 d ≠ none
  · rw [if_pos z] at h
    exact .inl ⟨z.1, (Option.some.inj h).symm, z.2⟩
  · rw [if_neg z] at h
    refine .inr ⟨fun e => z ⟨e, ?_⟩, h⟩
    subst e
    rw [h]
    exact fun y => nomatch y
theorem Rel.notCup (r : Rel g F ρ σ H) (f : F d) : g.cup ≠ some d := fun z => by
  cases hc : ρ.cup with
  | false => rw [r.cupF hc] at z; cases z
  | true =>
    obtain ⟨c, dd, c1, c2, c3⟩ := r.cupT hc
    rw [z] at c1
    cases c1
    exact r.notOwnF f ⟨0, dd, c3, c2⟩
theorem Rel.lock (r : Rel g F ρ σ H) (fd : F d) (du : DObj uo) (hd : H d = some uo) : Rel (lockG g d (.frz od uo)) F ρ σ (upd H d (.frz od uo)) where
  len := r.len
  sh := fun i x e => let ⟨v, h1, h2⟩ := r.sh i x e; ⟨v, h1, h2.keepsW (keepsW_lock du hd)⟩
  own := fun i x e => by
    obtain ⟨a, h1, mo, nF, f⟩ := r.own i x e
    refine ⟨a, h1, mo.keepsW (keepsW_lock du hd) (fun o h => ?_), nF, f.imp (fun z => lockG_none.mpr z) id⟩
    rw [upd_ne (fun z => nF (by rw [z]; exact fd))]
    exact h
  dist := r.dist
  cupT := r.cupT
  cupF := r.cupF
  F0 := r.F0
  Fn := fun a f => (r.Fn a f).imp id fun z => lockG_none.mpr z
  Fs := fun a f => by
    by_cases z : a = d
    · subst z; rw [upd_same]; exact fun y => nomatch y
    · rw [upd_ne z]; exact r.Fs a f
  base := fun a o h n => by
    rcases lockG_at h with ⟨rfl, rfl, _⟩ | ⟨ne, h⟩
    · exact upd_same
    · rw [upd_ne ne]; exact r.base a o h n
theorem Rel.unlock (r0 : Rel g F ρ σ H) (fd0 : F d) (du : DObj uo) (hd0 : H d = some uo) (fd : F' d) (r : Rel (lockG g d (.frz od uo)) F' ρ' σ' H') (hd : H' d = some (.frz od uo)) : Rel g F' ρ' σ' (upd H' d uo) where
  len := r.len
  sh := fun i x e => let ⟨v, h1, h2⟩ := r.sh i x e; ⟨v, h1, h2.keepsW (keepsW_unlock du hd)⟩
  own := fun i x e => by
    obtain ⟨a, h1, mo, nF, f⟩ := r.own i x e
    refine ⟨a, h1, mo.keepsW (keepsW_unlock du hd) (fun o h => ?_), nF, f.imp (fun z => lockG_none.mp z) id⟩
    rw [upd_ne (fun z => nF (by rw [z]; exact fd))]
    exact h
  dist := r.dist
  cupT := r.cupT
  cupF := r.cupF
  F0 := r.F0
  Fn := fun a f => (r.Fn a f).imp id fun z => lockG_none.mp z
  Fs := fun a f => by
    by_cases z : a = d
    · subst z; rw [upd_same]; exact fun y => nomatch y
    · rw [upd_ne z]; exact r.Fs a f
  base := fun a o h n => by
    by_cases z : a = d
    · subst z
      have := r0.base a o h n
      rw [hd0] at this
      cases this
      exact upd_same
    · rw [upd_ne z]
      refine r.base a o ?_ n
      unfold lockG
      simp only
      rw [if_neg (fun y => z y.1)]
      exact h
theorem Post.locked (r : Rel g F ρ σ H) (fd : F d) (du : DObj uo) (hd : H d = some uo) (p : Post (lockG g d (.frz od uo)) F ρ σ (upd H d (.frz od uo)) F' ρ' σ' H') : H' d = some (.frz od uo) := p.kept d _ upd_same (r.notOwnF fd)
theorem Post.unlock (r : Rel g F ρ σ H) (fd : F d) (du : DObj uo) (hd : H d = some uo) (p : Post (lockG g d (.frz od uo)) F ρ σ (upd H d (.frz od uo)) F' ρ' σ' H') : Post g F ρ σ H F' ρ' σ' (upd H' d uo) := by
  have he := p.locked r fd du hd
  have none_of : ∀ b, upd H d (.frz od uo) b = none → H b = none := fun b z => by
    by_cases y : b = d
    · subst y; rw [upd_same] at z; cases z
    · rw [upd_ne y] at z; exact z
  refine ⟨r.unlock fd du hd (p.mono d fd) p.rel he, p.mono, fun b o h no => ?_, fun b h => ?_, fun b h => ?_, fun b h => ?_⟩
  · by_cases z : b = d
    · subst z
      rw [hd] at h
      cases h
      exact upd_same
    · rw [upd_ne z]
      exact p.kept b o (by rw [upd_ne z]; exact h) no
  · by_cases z : b = d
    · subst z; rw [upd_same]; exact fun y => nomatch y
    · rw [upd_ne z]; exact p.there b (by rw [upd_ne z]; exact h)
  · rcases p.newF b h with z | z | z
    · exact .inl z
    · exact .inr (.inl (none_of b z))
    · exact .inr (.inr z)
  · rcases p.newO b h with z | z
    · exact .inl z
    · exact .inr (none_of b z)
theorem RW.unlock {w : W} {v : V} (du : DObj uo) (fd : F' d) (he : H' d = some (.frz od uo)) (h : RW (lockG g d (.frz od uo)) F' ρ' σ' H' v w) : RW g F' ρ' σ' (upd H' d uo) v w := by
  cases w with
  | sh x => exact Dt.keepsW (keepsW_unlock du he) h
  | fr x =>
    obtain ⟨a, e, mo, nF, no, h0⟩ := h
    refine ⟨a, e, mo.keepsW (keepsW_unlock du he) (fun o h => ?_), nF, no, lockG_none.mp h0⟩
    rw [upd_ne (fun z => nF (by rw [z]; exact fd))]
    exact h
  | vr i => exact h
theorem EPo.unlock {w : W} {v : V} (r : Rel g F ρ σ H) (fd : F d) (du : DObj uo) (hd : H d = some uo) (p : EPo (lockG g d (.frz od uo)) F ρ σ (upd H d (.frz od uo)) w ρ' v F' H') : EPo g F ρ σ H w ρ' v F' (upd H' d uo) := by
  have he := p.t.post.locked r fd du hd
  have fd' := p.t.post.mono d fd
  refine ⟨⟨p.t.post.unlock r fd du hd, p.t.pres, p.t.shr⟩, p.rw.unlock du fd' he, fun a h => ?_⟩
  · have := p.new a h
    by_cases y : a = d
    · subst y; rw [upd_same] at this; cases this
    · rw [upd_ne y] at this; exact this
theorem var_epo {j : Nat} {w : W} (r : Rel g F ρ σ H) (e : dVar j ρ = some (w, ρ')) : ρ' = ρ ∧ ∃ v, σ[j]? = some (some v) ∧ EPo g F ρ σ H w ρ v F H := by
  unfold dVar at e
  split at e
  · rename_i x hx
    cases e
    obtain ⟨v, e1, h⟩ := r.sh j x hx
    exact ⟨rfl, v, e1, EPo.val r h⟩
  · rename_i x hx
    cases e
    obtain ⟨a, e1, _⟩ := r.own j x hx
    exact ⟨rfl, _, e1, TPo.refl r, ⟨e1, _, hx⟩, fun a z => by obtain ⟨⟨_, z⟩, _⟩ := z; cases z⟩
  · cases e
end

/-! ### the keys of a locked dict of tuples -/
def ItX (d : Addr) (o : Obj) (kvs : List TE3) : It :=
  ⟨fun i H => H d = some (.frz o (tdO d kvs)) ∧ i < kvs.length, fun i H x H' => H' = H ∧ ∃ (k : List Int) (q : Addr) (u : Value), kvs[i]? = some (k, q, u) ∧ x = .ref q, fun i H => H d = some (.frz o (tdO d kvs)) ∧ kvs.length ≤ i⟩
theorem frzX {X : Cx} {pins : List (Addr × Obj)} {σ : St} {H : Hp} {s : Shared} {d : Addr} {o : Obj} {kvs : List TE3} (I : Inv X pins σ H s) (h : H d = some (.frz o (tdO d kvs))) :
    (d == sysModules) = false ∧ s.heap.get? d = some o ∧ o.ExactDict ∧ ∃ (es : Array DictEntry) (ep : Nat), o.data = .dict es ep ∧ es.size = kvs.length ∧
      ∀ (i : Nat) (k : List Int) (q : Addr) (u : Value), kvs[i]? = some (k, q, u) → ∃ en : DictEntry, es[i]? = some en ∧ en.key = .ref q := by
  obtain ⟨hd, _⟩ := I.hok d _ h
  obtain ⟨hs, _, _, o', es, ep, ho, hx, hdt, he⟩ := td_rd I (.inr ⟨o, h⟩)
  rw [hd] at ho
  cases ho
  refine ⟨hs, hd, hx, es, ep, hdt, ?_, fun i k q u e => ?_⟩
  · rw [← Array.length_toList, he, List.length_map]
  · have : es.toList[i]? = some (entT3 (k, q, u)) := by rw [he, List.getElem?_map, e]; rfl
    rw [Array.getElem?_toList] at this
    exact ⟨_, this, rfl⟩
section
variable {P : Program} {w : World} {K : PySem.W.Frag} {tg : Expr} {d : Addr} {o : Obj} {es : Array DictEntry} {ep : Nat}
theorem turn_keysX {kvs : List TE3} (it : Addr) (hod : o.data = .dict es ep) : Turn P w K tg (ItX d o kvs) [it] it (fun i h => h.IsKeyIter it d i kvs.length ep) where
  mem := by simp
  obj := fun i h st b hb => by
    have e : b = it := by simpa using hb
    subst e
    obtain ⟨oi, e, c, dd⟩ := st
    exact ⟨oi, e, fun v z => by rw [dd] at z; cases z⟩
  keep := fun i h h' st k => st.at fun oi e => k it (by simp) oi e
  item := by
    intro X hP hw hK hc i pins s σ H E I hf st hg
    subst hP hw hK
    obtain ⟨hd, hi⟩ := hg
    obtain ⟨f0, f1, f2, f3, f4, f5⟩ := hf it (by simp)
    obtain ⟨hs, hgd, hx, es', ep', hdt, hsz, ent⟩ := frzX I hd
    obtain ⟨rfl, rfl⟩ := dict_ep hod hdt
    obtain ⟨⟨k, q, u⟩, hkv⟩ : ∃ p, kvs[i]? = some p := ⟨kvs[i], List.getElem?_eq_getElem hi⟩
    obtain ⟨en, hen, hkey⟩ := ent i k q u hkv
    refine next_key_item st hgd hdt hsz hen fun h' st' sb => ?_
    have I1 : Inv X pins σ H { s with heap := h' } := I.turned (t' := s.toks) (fun b ob hb e => (sb.2 b hb).trans e) f0 f1 f3 f4 f5
    obtain ⟨oi, e, c, dd⟩ := id st'
    exact ⟨en.key, rfl, go_of (s := { s with heap := h' }) e c dd (by decide) ⟨.ref q, H, I1, hkey, ⟨rfl, k, q, u, hkv, rfl⟩, st', fun b hb => (hf b hb).1⟩⟩
  done := by
    intro X hP hw hK hc i pins s σ H E I hf st hg
    subst hP hw hK
    obtain ⟨hd, hi⟩ := hg
    obtain ⟨f0, f1, f2, f3, f4, f5⟩ := hf it (by simp)
    obtain ⟨hs, hgd, hx, es', ep', hdt, hsz, ent⟩ := frzX I hd
    obtain ⟨rfl, rfl⟩ := dict_ep hod hdt
    exact next_key_end (I.ok.hd hc) st hgd hdt hsz hi fun h' eb => ⟨rfl, I.turned (t' := s.toks) (fun b ob hb e => eb b ob hb e) f0 f1 f3 f4 f5⟩
  self := fun A i s Q E st h => by
    refine wpAny_pyIter_slot st.typeIs PySem.F.slot_dict_keyiterator_iter (wpAny_call_entry PySem.F.slot_dict_keyiterator_iter st.typeIs PySem.F.entry_dict_keyiterator_iter ?_ (PySem.F.args_dict_keyiterator_iter_1 _))
    show wpAny _ _ (ret (.ref it)) _ _ s
    exact wpAny_pure ⟨_, rfl, "dict_keyiterator", _, st.typeIs, PySem.F.slot_dict_keyiterator_next.lookup, h⟩
end
theorem pi_keysX {X : Cx} {tg e : Expr} {td : TE} (he : PE X e td) : PI X tg e (fun σ H R => td σ H fun x H1 => ∃ d o kvs, x = .ref d ∧ H1 d = some (.frz o (tdO d kvs)) ∧ R (ItX d o kvs) H1) := by
  refine ⟨fun pins s σ H R I h => ?_⟩
  refine thn (he.run pins s σ H _ I h) fun u s1 ⟨x, H1, I1, rx, d, o, kvs, ex, hd, q⟩ => ?_
  subst ex
  obtain rfl : u = Value.ref d := rx
  obtain ⟨hs, hgd, hx, es, ep, hdt, hsz, ent⟩ := frzX I1 hd
  refine iter_keys hs hgd hx hdt (pi_one (tk := s1.toks) I1 _ (turn_keysX _ hdt) ⟨_, Heap.get?_push_size _ rfl, rfl, ?_⟩ q)
  rw [hsz] <;> rfl

/-! ### walked by a name -/
def walkOf (t : Bool) (kind : List (D × D) → List D) : D → Option (List D)
  | .dict kvs => if isT kvs = true then (if t = true then some (kind kvs.tail) else none) else some (kind kvs)
  | _ => none
def dDict (j : Nat) (t : Bool) (kind : List (D × D) → List D) : DI := fun ρ => (dVar j ρ).bind fun x => (x.1.give x.2).bind fun y => (walkOf t kind y.1).map fun ds => (ds, y.2)
theorem walkOf_dict {t : Bool} {kind : List (D × D) → List D} {d : D} {ds : List D} (h : walkOf t kind d = some ds) : ∃ kvs, d = .dict kvs ∧ ((isT kvs = false ∧ ds = kind kvs) ∨ (isT kvs = true ∧ t = true ∧ ds = kind kvs.tail)) := by
  cases d with
  | dict kvs =>
    refine ⟨kvs, rfl, ?_⟩
    have h : (if isT kvs = true then (if t = true then some (kind kvs.tail) else none) else some (kind kvs)) = some ds := h
    cases hT : isT kvs with
    | true =>
      rw [hT, if_pos rfl] at h
      cases t with
      | true => exact .inr ⟨rfl, rfl, (Option.some.inj h).symm⟩
      | false => cases h
    | false =>
      rw [hT, if_neg Bool.false_ne_true] at h
      exact .inl ⟨rfl, (Option.some.inj h).symm⟩
  | _ => cases h
def keysD (kvs : List (D × D)) : List D := kvs.map (·.1)
def valsD (kvs : List (D × D)) : List D := kvs.map (·.2)
def itemsD (kvs : List (D × D)) : List D := kvs.map fun p => .tuple [p.1, p.2]
structure KindD (X : Cx) (tg iter : Expr) (j : Nat) (t : Bool) (kind : List (D × D) → List D) : Prop where
  ex : ∃ J : Addr → Obj → List (Key × V) → It, PI X tg iter (fun σ H R => ∃ d o ks, σ[j]? = some (some (.ref d)) ∧ H d = some (.frz o (.dK ks)) ∧ R (J d o ks) H) ∧
    ∀ F H d o ks kvs, H d = some (.frz o (.dK ks)) → Dkv X.K F H kvs ks → ItOk X.K F H (J d o ks) (kind kvs)
  exT : t = true → ∃ J : Addr → Obj → List TE3 → It, PI X tg iter (fun σ H R => ∃ d o ks, σ[j]? = some (some (.ref d)) ∧ H d = some (.frz o (tdO d ks)) ∧ R (J d o ks) H) ∧
    ∀ F H d o ks kvs, H d = some (.frz o (tdO d ks)) → Dkt X.K F H kvs ks → ItOk X.K F H (J d o ks) (kind kvs)
section
variable {X : Cx} {tg iter : Expr} {j : Nat} {t : Bool} {kind : List (D × D) → List D} {x : Str} {pos apos cpos : Pos}
theorem Dkv.at {K : PySem.W.Frag} {F : Rg} {H : Hp} : ∀ {kvs : List (D × D)} {ks : List (Key × V)} {i : Nat} {k : Key} {v : V}, Dkv K F H kvs ks → ks[i]? = some (k, v) → ∃ d, kvs[i]? = some (kD k, d) ∧ Dt K F H d v
  | _, _, _, _, _, .nil, e => by simp at e
  | _, _, 0, _, _, .cons h _, e => by simp at e; obtain ⟨rfl, rfl⟩ := e; exact ⟨_, rfl, h⟩
  | _, _, i + 1, k, v, .cons _ t, e => by
    obtain ⟨d, h1, h2⟩ := Dkv.at (i := i) t (by simpa using e)
    exact ⟨d, by simpa using h1, h2⟩
theorem Dkt.at {K : PySem.W.Frag} {F : Rg} {H : Hp} : ∀ {kvs : List (D × D)} {ks : List TE3} {i : Nat} {k : List Int} {b : Addr} {u : Value}, Dkt K F H kvs ks → ks[i]? = some (k, b, u) → ∃ d, kvs[i]? = some (.tuple (k.map .int), d) ∧ SqT K H b (k.map V.int)
  | _, _, _, _, _, _, .nil, e => by simp at e
  | _, _, 0, _, _, _, .cons s _ _ _, e => by simp at e; obtain ⟨rfl, rfl, rfl⟩ := e; exact ⟨_, rfl, s⟩
  | _, _, i + 1, k, b, u, .cons _ _ _ t, e => by
    obtain ⟨d, h1, h2⟩ := Dkt.at (i := i) t (by simpa using e)
    exact ⟨d, by simpa using h1, h2⟩
theorem Dkv.keepsK {K : PySem.W.Frag} {F F' : Rg} {H H' : Hp} {kvs : List (D × D)} {ks : List (Key × V)} (k : Keeps F F' H H') (h : Dkv K F H kvs ks) : Dkv K F' H' kvs ks := h.keeps k
theorem dt_key {K : PySem.W.Frag} {F : Rg} {H : Hp} (k : Key) : Dt K F H (kD k) (kV k) := by
  cases k with
  | inl i => exact .int i
  | inr x => exact .str x
theorem dts_ints {K : PySem.W.Frag} {F : Rg} {H : Hp} : ∀ k : List Int, Dts K F H (k.map .int) (k.map V.int)
  | [] => .nil
  | i :: k => .cons (.int i) (dts_ints k)
theorem kind_keys (hv : PE X (.Name x pos) (tVar j)) : KindD X tg (.Name x pos) j true keysD := by
  refine ⟨⟨Itk, (pi_keys hv).wk fun σ H R h => ?_, fun F H d o ks kvs hd dk => ?_⟩, fun _ => ⟨ItX, (pi_keysX hv).wk fun σ H R h => ?_, fun F H d o ks kvs hd dk => ?_⟩⟩
  · obtain ⟨d, o, ks, h1, h2, h3⟩ := h
    exact ⟨_, h1, d, o, rfl, .inl ⟨ks, h2, h3⟩⟩
  · refine ⟨fun H2 => H2 d = some (.frz o (.dK ks)), fun i H x H' => H' = H ∧ ∃ k v, ks[i]? = some (k, v) ∧ x = kV k, ?_, fun F2 H2 kk => kk.fzt _ _ _ hd, fun i dd F2 H2 x H3 e kk y => ?_⟩
    · have hl : (keysD kvs).length = ks.length := by unfold keysD; rw [List.length_map, dk.length]
      rw [hl]
      exact ⟨fun i H hi q => ⟨q, hi⟩, fun H q => ⟨q, Nat.le_refl _⟩, fun i H x H' _ _ y => y⟩
    · obtain ⟨rfl, k, v, e1, rfl⟩ := y
      obtain ⟨d', e2, _⟩ := dk.at e1
      unfold keysD at e
      rw [List.getElem?_map, e2] at e
      cases e
      exact .val (dt_key k)
  · obtain ⟨d, o, ks, h1, h2, h3⟩ := h
    exact ⟨_, h1, d, o, ks, rfl, h2, h3⟩
  · refine ⟨fun H2 => H2 d = some (.frz o (tdO d ks)), fun i H x H' => H' = H ∧ ∃ (k : List Int) (q : Addr) (u : Value), ks[i]? = some (k, q, u) ∧ x = .ref q, ?_, fun F2 H2 kk => kk.fzt _ _ _ hd, fun i dd F2 H2 x H3 e kk y => ?_⟩
    · have hl : (keysD kvs).length = ks.length := by unfold keysD; rw [List.length_map, dk.length]
      rw [hl]
      exact ⟨fun i H hi q => ⟨q, hi⟩, fun H q => ⟨q, Nat.le_refl _⟩, fun i H x H' _ _ y => y⟩
    · obtain ⟨rfl, k, b, u, e1, rfl⟩ := y
      obtain ⟨d', e2, hs⟩ := dk.at e1
      unfold keysD at e
      rw [List.getElem?_map, e2] at e
      cases e
      exact .val (.tup (kk.sqt hs) (dts_ints k))
theorem kind_vals (hv : PE X (.Name x pos) (tVar j)) (hbase : attributeBase (.Name x pos) "values" X.env (eval (.Name x pos) X.env) = eval (.Name x pos) X.env := by rfl) (hline : (apos.endLine == cpos.line) = true := by rfl) : KindD X tg (.Call (.Attribute (.Name x pos) "values" apos) [] [] cpos) j false valsD := by
  refine ⟨⟨Itd, (pi_values hv hbase hline).wk fun σ H R h => ?_, fun F H d o ks kvs hd dk => ?_⟩, fun z => by cases z⟩
  · obtain ⟨d, o, ks, h1, h2, h3⟩ := h
    exact ⟨_, h1, d, o, ks, rfl, h2, h3⟩
  · refine ⟨fun H2 => H2 d = some (.frz o (.dK ks)), fun i H x H' => H' = H ∧ ∃ k, ks[i]? = some (k, x), ?_, fun F2 H2 kk => kk.fzt _ _ _ hd, fun i dd F2 H2 x H3 e kk y => ?_⟩
    · have hl : (valsD kvs).length = ks.length := by unfold valsD; rw [List.length_map, dk.length]
      rw [hl]
      exact ⟨fun i H hi q => ⟨q, hi⟩, fun H q => ⟨q, Nat.le_refl _⟩, fun i H x H' _ _ y => y⟩
    · obtain ⟨rfl, k, e1⟩ := y
      obtain ⟨d', e2, hh⟩ := dk.at e1
      unfold valsD at e
      rw [List.getElem?_map, e2] at e
      cases e
      exact .val (hh.keeps kk)
theorem kind_items {elts : List Expr} {n : Nat} {tpos : Pos} (hv : PE X (.Name x pos) (tVar j)) (hbase : attributeBase (.Name x pos) "items" X.env (eval (.Name x pos) X.env) = eval (.Name x pos) X.env := by rfl) (hline : (apos.endLine == cpos.line) = true := by rfl) : KindD X (.Tuple elts n tpos) (.Call (.Attribute (.Name x pos) "items" apos) [] [] cpos) j false itemsD := by
  refine ⟨⟨Iti, (pi_items hv hbase hline).wk fun σ H R h => ?_, fun F H d o ks kvs hd dk => ?_⟩, fun z => by cases z⟩
  · obtain ⟨d, o, ks, h1, h2, h3⟩ := h
    exact ⟨_, h1, d, o, ks, rfl, h2, h3⟩
  · refine ⟨fun H2 => H2 d = some (.frz o (.dK ks)), fun i H x H' => ∃ T k v, ks[i]? = some (k, v) ∧ x = .ref T ∧ H T = none ∧ H' = upd H T (.tup [kV k, v]), ?_, fun F2 H2 kk => kk.fzt _ _ _ hd, fun i dd F2 H2 x H3 e kk y => ?_⟩
    · have hl : (itemsD kvs).length = ks.length := by unfold itemsD; rw [List.length_map, dk.length]
      rw [hl]
      exact ⟨fun i H hi q => ⟨q, hi⟩, fun H q => ⟨q, Nat.le_refl _⟩, fun i H x H' _ _ y => y⟩
    · obtain ⟨T, k, v, e1, rfl, hT, rfl⟩ := y
      obtain ⟨d', e2, hh⟩ := dk.at e1
      unfold itemsD at e
      rw [List.getElem?_map, e2] at e
      cases e
      exact .tup hT (.cons (dt_key k) (.cons (hh.keeps kk) .nil))

/-- the dict at slot j is locked -/
def Zed (j : Nat) (σ : St) (H : Hp) : Prop := ∃ d o u, DObj u ∧ σ[j]? = some (some (.ref d)) ∧ H d = some (.frz o u)
/-- what is walked, by its reading -/
theorem dDict_read {g : G} {F : Rg} {ρ ρ1 : En} {σ : St} {H : Hp} {ds : List D} (r : Rel g F ρ σ H) (e : dDict j t kind ρ = some (ds, ρ1)) :
    ∃ F1 d, TPo g F ρ σ H F1 ρ1 H ∧ σ[j]? = some (some (.ref d)) ∧ F1 d ∧ ((∃ kvs ks, Rd H d (.dK ks) ∧ Dkv g.K F1 H kvs ks ∧ ds = kind kvs) ∨ (∃ kvs es, t = true ∧ Rd H d (tdO d es) ∧ Dkt g.K F1 H kvs es ∧ ds = kind kvs)) := by
  obtain ⟨⟨w, ρ0⟩, e1, e⟩ := Option.bind_eq_some_iff.mp e
  obtain ⟨⟨dd, ρ2⟩, e2, e⟩ := Option.bind_eq_some_iff.mp e
  obtain ⟨ds', e3, e⟩ := Option.map_eq_some_iff.mp e
  cases e
  obtain ⟨rfl, v, s2, ep⟩ := var_epo r e1
  obtain ⟨F2, p2, hv⟩ := ep.give e2
  obtain ⟨kvs, rfl, e4⟩ := walkOf_dict e3
  cases hv with
  | dik f rr dk =>
    rcases e4 with ⟨_, rfl⟩ | ⟨z, _⟩
    · exact ⟨F2, _, p2, s2, f, .inl ⟨_, _, rr, dk, rfl⟩⟩
    · rw [dk.notT] at z; cases z
  | dit f rr dk =>
    rcases e4 with ⟨z, _⟩ | ⟨_, ht, rfl⟩
    · cases z
    · exact ⟨F2, _, p2, s2, f, .inr ⟨_, _, ht, rr, dk, rfl⟩⟩
theorem KindD.pi (W : KindD X tg iter j t kind) {g : G} (hg : g.K = X.K) : PI X tg iter (fun σ H R => Zed j σ H ∧ tI g (dDict j t kind) σ H R) := by
  obtain ⟨J, h1, h2⟩ := W.ex
  have go : ∀ {pins : List (Addr × Obj)} {s : Shared} {σ : St} {H : Hp} {R : It → Hp → Prop}, Zed j σ H ∧ tI g (dDict j t kind) σ H R →
      ((∃ d o ks, σ[j]? = some (some (.ref d)) ∧ H d = some (.frz o (.dK ks)) ∧ R (J d o ks) H) ∨ ∃ d o ks, t = true ∧ σ[j]? = some (some (.ref d)) ∧ H d = some (.frz o (tdO d ks)) ∧ ∀ JT : Addr → Obj → List TE3 → It,
        (∀ F H d o ks kvs, H d = some (.frz o (tdO d ks)) → Dkt X.K F H kvs ks → ItOk X.K F H (JT d o ks) (kind kvs)) → R (JT d o ks) H) := by
    intro pins s σ H R tt
    obtain ⟨⟨d, o, u, du, s1, hd⟩, F, ρ, r, ds, ρ', e0, q⟩ := tt
    obtain ⟨F2, d', p2, s2, f, rr⟩ := dDict_read r e0
    rw [s1] at s2
    cases s2
    rcases rr with ⟨kvs, ks, rd, dk, rfl⟩ | ⟨kvs, es, ht, rd, dk, rfl⟩
    · rcases rd with rd | ⟨o', rd⟩
      · rw [hd] at rd; cases rd
      · exact .inl ⟨d, o', ks, s1, rd, q _ H F2 p2 (hg ▸ h2 F2 H d o' _ _ rd (hg ▸ dk))⟩
    · rcases rd with rd | ⟨o', rd⟩
      · rw [hd] at rd; cases rd
      · exact .inr ⟨d, o', es, ht, s1, rd, fun JT k2 => q _ H F2 p2 (hg ▸ k2 F2 H d o' _ _ rd (hg ▸ dk))⟩
  refine ⟨fun pins s σ H R I tt => ?_⟩
  rcases go (pins := pins) (s := s) tt with h | ⟨d, o, ks, ht, s1, hd, hR⟩
  · exact h1.run pins s σ H R I h
  · obtain ⟨JT, k1, k2⟩ := W.exT ht
    exact k1.run pins s σ H R I ⟨d, o, ks, s1, hd, hR JT k2⟩
theorem dDict_idem {ρ ρ1 : En} {ds : List D} (h : dDict j t kind ρ = some (ds, ρ1)) : dDict j t kind ρ1 = some (ds, ρ1) := by
  obtain ⟨⟨w, ρ0⟩, e1, e⟩ := Option.bind_eq_some_iff.mp h
  obtain ⟨⟨dd, ρ2⟩, e2, e⟩ := Option.bind_eq_some_iff.mp e
  obtain ⟨ds', e3, e⟩ := Option.map_eq_some_iff.mp e
  cases e
  unfold dVar at e1
  split at e1
  · cases e1
    cases e2
    exact h
  · rename_i d hd
    cases e1
    simp only [W.give] at e2
    split at e2
    · rename_i d' hd'
      rw [hd] at hd'
      cases hd'
    · split at e2
      · cases e2
      · rename_i d' hd' hc
        rw [hd] at hd'
        cases hd'
        cases e2
        have hj := (List.getElem?_eq_some_iff.mp hd).1
        unfold dDict dVar
        simp only [List.getElem?_set_self hj]
        show (walkOf t kind _).map _ = _
        rw [e3]
        rfl
    · cases e2
  · cases e1
end
section
variable {X : Cx} {j : Nat} {t : Bool} {kind : List (D × D) → List D}
theorem _root_.L2.PS.or {e : Stmt} {t1 t2 : TS} (h1 : PS X e t1) (h2 : PS X e t2) : PS X e (fun D σ H => t1 D σ H ∨ t2 D σ H) := ⟨fun pins s σ H D I h => h.elim (h1.run pins s σ H D I) (h2.run pins s σ H D I)⟩
/-- what the walk's dict is, locked or not -/
theorem dict_there {g : G} {F : Rg} {ρ ρ1 : En} {σ : St} {H : Hp} {ds : List D} (r : Rel g F ρ σ H) (e : dDict j t kind ρ = some (ds, ρ1)) :
    ∃ F1 d u, TPo g F ρ σ H F1 ρ1 H ∧ σ[j]? = some (some (.ref d)) ∧ F1 d ∧ DObj u ∧ (H d = some u ∨ ∃ o, H d = some (.frz o u)) := by
  obtain ⟨F1, d, p, s, f, rr⟩ := dDict_read r e
  rcases rr with ⟨kvs, ks, rd, _⟩ | ⟨kvs, es, _, rd, _⟩
  · exact ⟨F1, d, _, p, s, f, .inl ⟨ks, rfl⟩, rd⟩
  · exact ⟨F1, d, tdO d es, p, s, f, .inr ⟨_, es, rfl⟩, rd⟩
theorem ped_locked {e : Expr} {f : DE} (hp : ∀ g : G, g.K = X.K → PE X e (fun σ H Q => Zed j σ H ∧ tE g f σ H Q)) (hf : ∀ ρ x, f ρ = some x → ∃ ds ρ1, dDict j t kind ρ = some (ds, ρ1) ∧ f ρ1 = some x) : PED X e f := fun g hg => by
  have uni : PE X e (fun σ H Q => ∃ g' : G, g'.K = X.K ∧ Zed j σ H ∧ tE g' f σ H Q) := ⟨fun pins s σ H Q I ⟨g', hg', h⟩ => (hp g' hg').run pins s σ H Q I h⟩
  refine ((pe_lock uni).or (hp g hg)).wk fun σ H Q t => ?_
  obtain ⟨F, ρ, r, w, ρ', e0, q⟩ := t
  obtain ⟨ds, ρ1, e1, e2⟩ := hf ρ _ e0
  obtain ⟨F1, d, u, p, s1, fd, du, hd⟩ := dict_there r e1
  have r1 := p.post.rel
  rcases hd with hd | ⟨o, hd⟩
  · refine .inl ⟨d, _, hd, du.mut, fun od => ⟨lockG g d (.frz od u), hg, ⟨d, od, u, du, s1, upd_same⟩, F1, ρ1, r1.lock fd du hd, w, ρ', e2, fun v H' F' p' => ⟨p'.t.post.locked r1 fd du hd, ?_⟩⟩⟩
    exact q v _ F' (EPo.then r p (p'.unlock r1 fd du hd))
  · exact .inr ⟨⟨d, o, u, du, s1, hd⟩, F1, ρ1, r1, w, ρ', e2, fun v H' F' p' => q v H' F' (EPo.then r p p')⟩
theorem psd_locked {st : Stmt} {f : DS} (hp : ∀ g : G, g.K = X.K → PS X st (fun E σ H => Zed j σ H ∧ tS g f E σ H)) (hf : ∀ ρ x, f ρ = some x → ∃ ds ρ1, dDict j t kind ρ = some (ds, ρ1) ∧ f ρ1 = some x) : PSD X st f := fun g hg => by
  have uni : PS X st (fun E σ H => ∃ g' : G, g'.K = X.K ∧ Zed j σ H ∧ tS g' f E σ H) := ⟨fun pins s σ H E I ⟨g', hg', h⟩ => (hp g' hg').run pins s σ H E I h⟩
  refine ((ps_lock uni).or (hp g hg)).wk fun E σ H t => ?_
  obtain ⟨F, ρ, r, fl, e0, q⟩ := t
  obtain ⟨ds, ρ1, e1, e2⟩ := hf ρ _ e0
  obtain ⟨F1, d, u, p, s1, fd, du, hd⟩ := dict_there r e1
  have r1 := p.post.rel
  have q1 := q.from r p.post
  rcases hd with hd | ⟨o, hd⟩
  · refine .inl ⟨d, _, hd, du.mut, fun od => ⟨lockG g d (.frz od u), hg, ⟨d, od, u, du, s1, upd_same⟩, F1, ρ1, r1.lock fd du hd, fl, e2, ?_⟩⟩
    cases fl with
    | nx ρ5 => exact fun σ5 H5 F5 p5 => ⟨p5.locked r1 fd du hd, q1 σ5 _ F5 (p5.unlock r1 fd du hd)⟩
    | bk ρ5 => exact fun σ5 H5 F5 p5 => ⟨p5.locked r1 fd du hd, q1 σ5 _ F5 (p5.unlock r1 fd du hd)⟩
    | ct ρ5 => exact fun σ5 H5 F5 p5 => ⟨p5.locked r1 fd du hd, q1 σ5 _ F5 (p5.unlock r1 fd du hd)⟩
    | rt w ρ5 => exact fun v σ5 H5 F5 p5 rw5 => ⟨p5.locked r1 fd du hd, q1 v σ5 _ F5 (p5.unlock r1 fd du hd) (rw5.unlock du (p5.mono d fd) (p5.locked r1 fd du hd))⟩
  · exact .inr ⟨⟨d, o, u, du, s1, hd⟩, F1, ρ1, r1, fl, e2, q1⟩
theorem dFor_idem {kind : List (D × D) → List D} {t : Bool} {j : Nat} {tg : DG} {body : DS} {vs : List Nat} : ∀ ρ x, dFor (dDict j t kind) tg body vs ρ = some x → ∃ ds ρ1, dDict j t kind ρ = some (ds, ρ1) ∧ dFor (dDict j t kind) tg body vs ρ1 = some x := fun ρ x h => by
  obtain ⟨⟨ds, ρ1⟩, e1, e⟩ := Option.bind_eq_some_iff.mp h
  exact ⟨ds, ρ1, e1, Option.bind_eq_some_iff.mpr ⟨_, dDict_idem e1, e⟩⟩
theorem dLc_idem {kind : List (D × D) → List D} {t : Bool} {j : Nat} {tg : DG} {ft : DT} {fe : DE} {vs : List Nat} : ∀ ρ x, dLc (dDict j t kind) tg ft fe vs ρ = some x → ∃ ds ρ1, dDict j t kind ρ = some (ds, ρ1) ∧ dLc (dDict j t kind) tg ft fe vs ρ1 = some x := fun ρ x h => by
  obtain ⟨⟨ds, ρ1⟩, e1, e⟩ := Option.bind_eq_some_iff.mp h
  exact ⟨ds, ρ1, e1, Option.bind_eq_some_iff.mpr ⟨_, dDict_idem e1, e⟩⟩
theorem dSet_idem {kind : List (D × D) → List D} {t : Bool} {i j : Nat} {f : DE} (hf : ∀ ρ x, f ρ = some x → ∃ ds ρ1, dDict j t kind ρ = some (ds, ρ1) ∧ f ρ1 = some x) : ∀ ρ x, dSet i f ρ = some x → ∃ ds ρ1, dDict j t kind ρ = some (ds, ρ1) ∧ dSet i f ρ1 = some x := fun ρ x h => by
  obtain ⟨y, e1, e⟩ := Option.bind_eq_some_iff.mp h
  obtain ⟨ds, ρ1, h1, h2⟩ := hf ρ y e1
  exact ⟨ds, ρ1, h1, Option.bind_eq_some_iff.mpr ⟨_, h2, e⟩⟩
end
section
variable {X : Cx} {pos : Pos} {tg iter : Expr} {body : List Stmt} {ft : DG} {fb : DS} {is vs : List Nat} {j : Nat} {t : Bool} {kind : List (D × D) → List D}
theorem psd_forD (hp : PassesOwn (model X.prog X.w) X.A X.env X.xe) (hc : X.calm = true) (hi : KindD X tg iter j t kind) (hg' : PGD X tg ft is) (hb : PSsD X body fb) (vs : List Nat)
    (hs : ∀ x, foldedSetIterable iter X.env x = pure x := by intro _; rfl) : PSD X (.For tg iter body [] pos) (dFor (dDict j t kind) ft fb vs) :=
  psd_locked (j := j) (t := t) (kind := kind) (fun g hg => (ps_for hp hc (hi.pi hg) (hg' g hg) (hb g hg) hs).wk fun E σ H t => ⟨t.1, for_ok (vs := vs) t.2⟩) dFor_idem
end
section
variable {X : Cx} {tg iter elt : Expr} {ifs : List Expr} {scope : Scope} {pos : Pos} {own : List (Str × Nat)} {j : Nat} {t : Bool} {kind : List (D × D) → List D} {fg : DG} {ft : DT} {fe : DE} {is : List Nat}
theorem ped_lcD (hc : X.calm = true) (hN : X.N.Nodup) (hi : KindD X tg iter j t kind) (ok : BlkOk X.N X.env.scope scope own)
    (hg' : ∀ (s : Shared) (H : Hp) (C : Addr) (cl : List (Str × Addr)) (fp : List Addr), PGD (X.blk s H scope (compEnvC scope cl C X.env) fp) tg fg is) (ht : ∀ (s : Shared) (H : Hp) (C : Addr) (cl : List (Str × Addr)) (fp : List Addr), PTsD (X.blk s H scope (compEnvC scope cl C X.env) fp) ifs ft)
    (he : ∀ (s : Shared) (H : Hp) (C : Addr) (cl : List (Str × Addr)) (fp : List Addr), PED (X.blk s H scope (compEnvC scope cl C X.env) fp) elt fe) (hsub : ∀ i ∈ is, i ∈ own.map (·.2) := by decide) (hs : ∀ x, foldedSetIterable iter X.env x = pure x := by intro _; rfl) :
    PED X (.ListComp elt [⟨tg, iter, ifs, 0⟩] scope pos) (dLc (dDict j t kind) fg ft fe (own.map (·.2))) :=
  ped_locked (j := j) (t := t) (kind := kind) (fun g hg => (pe_lc hc hN (hi.pi hg) ok (fun s H C cl fp => hg' s H C cl fp g hg) (fun s H C cl fp => ht s H C cl fp g hg) (fun s H C cl fp => he s H C cl fp g hg) hs).wk fun σ H Q t => ⟨t.1, lc_ok hsub t.2⟩) dLc_idem
theorem psd_setLcD {i : Nat} {y : Str} {py spos : Pos} (hc : X.calm = true) (hN : X.N.Nodup) (hy : X.N[i]? = some y) (hyl : X.env.scope.names.lookup y = some .local) (hsw : swapsWith (.ListComp elt [⟨tg, iter, ifs, 0⟩] scope pos) (some (.Name y py)) spos.line X.env = pure true)
    (hi : KindD X tg iter j t kind) (ok : BlkOk X.N X.env.scope scope own)
    (hg' : ∀ (s : Shared) (H : Hp) (C : Addr) (cl : List (Str × Addr)) (fp : List Addr), PGD (X.blk s H scope (compEnvC scope cl C X.env) fp) tg fg is) (ht : ∀ (s : Shared) (H : Hp) (C : Addr) (cl : List (Str × Addr)) (fp : List Addr), PTsD (X.blk s H scope (compEnvC scope cl C X.env) fp) ifs ft)
    (he : ∀ (s : Shared) (H : Hp) (C : Addr) (cl : List (Str × Addr)) (fp : List Addr), PED (X.blk s H scope (compEnvC scope cl C X.env) fp) elt fe) (hsub : ∀ i ∈ is, i ∈ own.map (·.2) := by decide) (hs : ∀ x, foldedSetIterable iter X.env x = pure x := by intro _; rfl) :
    PSD X (.Assign [.Name y py] (.ListComp elt [⟨tg, iter, ifs, 0⟩] scope pos) spos) (dSet i (dLc (dDict j t kind) fg ft fe (own.map (·.2)))) :=
  psd_locked (j := j) (t := t) (kind := kind) (fun g hg => (ps_setLc hc hN hy hyl hsw (hi.pi hg) ok (fun s H C cl fp => hg' s H C cl fp g hg) (fun s H C cl fp => ht s H C cl fp g hg) (fun s H C cl fp => he s H C cl fp g hg) hs).wk fun E σ H t =>
    ⟨t.1, lc_ok (own := own) hsub (set_ok t.2)⟩) (dSet_idem dLc_idem)
end
end PD
set_option Elab.async false
set_option linter.all false
set_option maxRecDepth 100000
set_option maxHeartbeats 4000000
/-! PD16: small things that the printed walks lean on. -/
namespace PD
set_option autoImplicit false
open PySem PySem.Spec L2
open PyProof.Rows hiding St
section
variable {X : Cx} {x : Str} {pos : Pos}
theorem pgn (nd : X.N.Nodup) (i : Nat) (hi : X.N[i]? = some x := by rfl) (hx : L2.Loc X.env.scope x := by first | exact .inl rfl | exact .inr rfl) (hf : X.fn x = true ∨ X.env.scope.names.lookup x = some .local := by first | exact .inl rfl | exact .inr rfl) : PG X (.Name x pos) (gName i) := pg_name nd hi hx hf
def bStr : D → Option W
  | .str x => some (.sh (.str x))
  | _ => none
theorem b1_str : B1 X (.type "str") bStr := by
  refine ⟨_, SkE.call_str_str, fun F H a va w Q ha e q => ?_⟩
  unfold bStr at e
  split at e
  · cases e
    cases ha.str_inv
    exact ⟨_, rfl, q _ _ (.val (.str _))⟩
  · cases e
end
section
variable {P : Program} {w : World} {K : PySem.W.Frag} {mg : Str → Option Value} {base : Heap} {k : Nat} {f : Addr} {fd : FuncData} {ps : List Str}
theorem fn_never {sem : FS} (h : ∀ ds x, sem ds = some x → False) : FnOk P w K mg base CX0 k f fd ps (spD K sem) :=
  ⟨fun vs H Q E ⟨_, _, _, _, _, _, e, _⟩ => (h _ _ e).elim, fun A outer s H args us vs Q E _ _ _ _ ⟨_, _, _, _, _, _, e, _⟩ => (h _ _ e).elim⟩
end
end PD
set_option Elab.async false
set_option linter.all false
set_option maxRecDepth 100000
set_option maxHeartbeats 4000000
/-! PD17: the two heads that every one of these laws has: _law_cup, law. -/
namespace PD
set_option autoImplicit false
open PySem PySem.Spec L2
open PyProof.Rows hiding St
section
variable {X : Cx} {s0 : Stmt} {ss : List Stmt} {te : TE} {i : Nat} {fb : DS}
/-- a statement of the layer below, then statements over data -/
theorem first_then (h0 : PS X s0 (tAsg te (gName i))) (h : PSsD X ss fb) : PSs X (s0 :: ss) (fun D σ H => te σ H fun v H1 => ∃ g : G, g.K = X.K ∧ tS g fb D (σ.set i (some v)) H1) := by
  have uni : PSs X ss (fun D σ H => ∃ g : G, g.K = X.K ∧ tS g fb D σ H) := ⟨fun pins s σ H D I ⟨g, hg, q⟩ => (h g hg).run pins s σ H D I q⟩
  exact (pss_cons h0 uni).wk fun D σ H t => t
/-- nothing is known but one slot -/
def G0 (K : PySem.W.Frag) : G := ⟨K, fun _ => none, fun _ => False, none⟩
def En.only (n i : Nat) (s : Sl) : En := ⟨false, (List.replicate n none).set i (some s)⟩
theorem only_at {n i j : Nat} {s t : Sl} (h : ((List.replicate n (none : Option Sl)).set i (some s))[j]? = some (some t)) : i = j ∧ s = t := by
  rcases set_at h with ⟨e, q, _⟩ | ⟨_, q⟩
  · cases q; exact ⟨e, rfl⟩
  · rw [List.getElem?_replicate] at q
    split at q <;> cases q
theorem rel_onlySh {K : PySem.W.Frag} {n i : Nat} {d : D} {v : V} {σ : St} {H : Hp} (hl : σ.length = n) (hi : i < n) (hd : Dt K (fun _ => False) H d v) : Rel (G0 K) (fun _ => False) (En.only n i (.sh d)) (σ.set i (some v)) H where
  len := by show ((List.replicate n none).set i _).length = _; rw [List.length_set, List.length_replicate, List.length_set, hl]
  sh := fun j d' e => by
    obtain ⟨rfl, q⟩ := only_at e
    cases q
    exact ⟨v, List.getElem?_set_self (by omega), hd⟩
  own := fun j d' e => by obtain ⟨_, q⟩ := only_at e; cases q
  dist := fun j k d1 d2 a e => by obtain ⟨_, q⟩ := only_at e; cases q
  cupT := fun h => by cases h
  cupF := fun _ => rfl
  F0 := fun _ h => h
  Fn := fun _ h => h.elim
  Fs := fun _ h => h.elim
  base := fun _ _ h => by cases h
theorem rel_onlyOwn {K : PySem.W.Frag} {n i : Nat} {d : D} {a : Addr} {σ : St} {H : Hp} (hl : σ.length = n) (hi : i < n) (hd : Mo K (fun _ => False) H d a) : Rel (G0 K) (fun _ => False) (En.only n i (.own d)) (σ.set i (some (.ref a))) H where
  len := by show ((List.replicate n none).set i _).length = _; rw [List.length_set, List.length_replicate, List.length_set, hl]
  sh := fun j d' e => by obtain ⟨_, q⟩ := only_at e; cases q
  own := fun j d' e => by
    obtain ⟨rfl, q⟩ := only_at e
    cases q
    exact ⟨a, List.getElem?_set_self (by omega), hd, fun h => h, .inl rfl⟩
  dist := fun j k d1 d2 b e1 e2 _ _ => by
    obtain ⟨q1, _⟩ := only_at e1
    obtain ⟨q2, _⟩ := only_at e2
    omega
  cupT := fun h => by cases h
  cupF := fun _ => rfl
  F0 := fun _ h => h
  Fn := fun _ h => h.elim
  Fs := fun _ h => h.elim
  base := fun _ _ h => by cases h
end

/-! ### the cup -/
def spCup (K : PySem.W.Frag) : Sp := fun vs H Q _ => ∃ (a : Addr) (ns : List Int), vs = [.ref a] ∧ SqL K H a (ns.map V.int) ∧ ns.length ≤ 63 ∧ ∀ (p : Addr) (x y : Int) (H' : Hp), 0 ≤ x → 0 ≤ y → y < 10000000000 → H' p = some (.lst [.int x, .int y]) → Q (.ref p) H'
def tFirst (K : PySem.W.Frag) : TE := fun σ H Q => ∃ (a : Addr) (ns : List Int), σ[0]? = some (some (.ref a)) ∧ SqL K H a (ns.map V.int) ∧ ns.length ≤ 63 ∧ ∀ (c : Int) (H' : Hp), 0 ≤ c → Q (.int c) H'
section
variable {X : Cx} {p1 p2 p3 p4 p5 p6 p7 p8 p9 p10 p11 p12 : Pos} {j1 j2 : Nat}
theorem head_int {ns : List Int} : ∃ c, L2.atI (ns.map V.int ++ [V.int 0]) 0 = some (.int c) := by
  cases ns with
  | nil => exact ⟨0, rfl⟩
  | cons n ns => exact ⟨n, atI_nat (j := 0) rfl⟩
theorem pe_first (ga : Gl X "abs") (gl : Gl X "list") (ma : X.mg "abs" = none) (ml : X.mg "list" = none) (hv : PE X (.Name "script" p4) (tVar 0))
    (h1 : starEach [Expr.Subscript (.BinOp (.Call (.Name "list" p3) [.Name "script" p4] [] p5) .Add (.List [.Constant (.int 0) j1 p6] p7) p8) (.Constant (.int 0) j2 p9) p10] X.env = (false, eval (.Subscript (.BinOp (.Call (.Name "list" p3) [.Name "script" p4] [] p5) .Add (.List [.Constant (.int 0) j1 p6] p7) p8) (.Constant (.int 0) j2 p9) p10) X.env) :: starEach [] X.env := by rfl)
    (h2 : starEach [Expr.Name "script" p4] X.env = (false, eval (.Name "script" p4) X.env) :: starEach [] X.env := by rfl) (h3 : starEach [Expr.Constant (.int 0) j1 p6] X.env = (false, eval (.Constant (.int 0) j1 p6) X.env) :: starEach [] X.env := by rfl) :
    PE X (.Call (.Name "abs" p2) [.Subscript (.BinOp (.Call (.Name "list" p3) [.Name "script" p4] [] p5) .Add (.List [.Constant (.int 0) j1 p6] p7) p8) (.Constant (.int 0) j2 p9) p10] [] p11) (tFirst X.K) := by
  refine (pe_callB call_abs ga ma (by decide +kernel) (pa_cons (pe_ix ix_list (pe_op op_cat (pe_callTy call_list_of gl ml (by decide +kernel) (pa_cons hv pa_nil h2) (by decide) (by decide) h2) (pe_lst (pa_cons pe_int pa_nil h3))) pe_int fun _ _ => rfl) pa_nil h1) (by decide) (by decide) h1).wk fun σ H Q t => ?_
  obtain ⟨a, ns, s0, hS, hl, q⟩ := t
  refine ⟨.ref a, s0, a, ns.map V.int, rfl, .inl hS, fun l hn => ⟨(by decide : 1 ≤ sizeLine), fun m hm => ?_⟩⟩
  have ne : l ≠ m := fun z => by
    subst z
    rw [upd_same] at hm
    cases hm
  have hs := sizeLine_eq
  refine ⟨l, m, ns.map V.int, [.int 0], rfl, rfl, by rw [upd_ne ne]; exact upd_same, upd_same, by rw [List.length_map, List.length_singleton]; omega, fun r hr => ?_⟩
  obtain ⟨c, hc⟩ := head_int (ns := ns)
  refine ⟨r, _, 0, _, rfl, rfl, .inl (.inl upd_same), hc, c, rfl, q _ _ ?_⟩
  split <;> omega
end

section
variable {P : Program} {w : World} {K : PySem.W.Frag} {mg : Str → Option Value} {base : Heap} {k : Nat} {f : Addr} {fd : FuncData} {st : Stmt} {x qual : Str} {N : List Str}
theorem cup_fn (Fx : Fun K x qual st f fd) (S : FnScope N ["script"] (defScope st)) (hN : N.length = 2) (fb : DS) (s0 : Stmt) (ss : List Stmt) (hst : defBody st = s0 :: ss)
    (hbody : ∀ (cdv : Value) (A : Around) (outer : List Env) (s : Shared) (H : Hp) (E : XK), Room k (A.deeper (envOfC qual (defScope st) s.heap.objs.size f cdv)) →
      PS (cxOf CX0 P w K mg base N qual (defScope st) f cdv A outer s H E).nox s0 (tAsg (tFirst K) (gName 1)) ∧ PSsD (cxOf CX0 P w K mg base N qual (defScope st) f cdv A outer s H E).nox ss fb)
    (hsem : ∀ c : Int, 0 ≤ c → ∃ x y ρ', fb (En.only 2 1 (.sh (.int c))) = some (.rt (.fr (.list [.int x, .int y])) ρ') ∧ 0 ≤ x ∧ 0 ≤ y ∧ y < 10000000000) : FnOk P w K mg base CX0 (k + 1) f fd ["script"] (spCup K) := by
  refine Fx.ok S (fun vs H Q E h => ?_) (fun cdv A outer s H vs Q E hr h => ?_)
  · obtain ⟨a, ns, rfl, _⟩ := h
    rfl
  · obtain ⟨a, ns, rfl, hS, hl, q⟩ := h
    obtain ⟨b1, b2⟩ := hbody cdv A outer s H E hr
    rw [hst]
    refine ⟨_, first_then b1 b2, a, ns, ?_, hS, hl, fun c H' hc => ?_⟩
    · rfl
    · obtain ⟨y1, y2, ρ', e, h1, h2, h3⟩ := hsem c hc
      have hlen : (L2.start N [V.ref a]).length = 2 := by
        unfold L2.start
        rw [hN]
        rfl
      refine ⟨G0 K, rfl, fun _ => False, En.only 2 1 (.sh (.int c)), rel_onlySh hlen (by decide) (.int c), _, e, fun v σ' H' F' p rw => ?_⟩
      obtain ⟨b, rfl, mo, _⟩ := rw
      obtain ⟨xs, e1, e2⟩ := mo.lst_inv
      have e3 : xs = [.int y1, .int y2] := Dts.ints (ns := [y1, y2]) e2
      subst e3
      exact q b y1 y2 H' h1 h2 h3 e1
def spLaw (K : PySem.W.Frag) : Sp := fun vs H Q _ => ∃ (a : Addr) (ns : List Int), vs = [.ref a] ∧ SqL K H a (ns.map V.int) ∧ ns.length ≤ 63 ∧ ∀ H', Q (.bl true) H'
/-- cup = _law_cup(script), at the law's beginning -/
theorem law_fn (Fx : Fun K x qual st f fd) (S : FnScope N ["script"] (defScope st)) (n : Nat) (hN : N.length = n + 2) (fb : DS) (s0 : Stmt) (ss : List Stmt) (hst : defBody st = s0 :: ss)
    (hbody : ∀ (cdv : Value) (A : Around) (outer : List Env) (s : Shared) (H : Hp) (E : XK), Room k (A.deeper (envOfC qual (defScope st) s.heap.objs.size f cdv)) →
      PS (cxOf CX0 P w K mg base N qual (defScope st) f cdv A outer s H E).nox s0 (tAsg (tCall (spCup K) [] E0 (tCons (tVar 0) tNil)) (gName 1)) ∧ PSsD (cxOf CX0 P w K mg base N qual (defScope st) f cdv A outer s H E).nox ss fb)
    (hsem : ∀ x y : Int, 0 ≤ x → 0 ≤ y → y < 10000000000 → ∃ ρ', fb (En.only (n + 2) 1 (.own (.list [.int x, .int y]))) = some (.rt (.sh (.bool true)) ρ')) : FnOk P w K mg base CX0 (k + 1) f fd ["script"] (spLaw K) := by
  refine Fx.ok S (fun vs H Q E h => ?_) (fun cdv A outer s H vs Q E hr h => ?_)
  · obtain ⟨a, ns, rfl, _⟩ := h
    rfl
  · obtain ⟨a, ns, rfl, hS, hl, q⟩ := h
    obtain ⟨b1, b2⟩ := hbody cdv A outer s H E hr
    rw [hst]
    refine ⟨_, first_then b1 b2, .ref a, ?_, a, ns, rfl, hS, hl, fun p x y H' hx hy hy2 hp => ?_⟩
    · rfl
    · obtain ⟨ρ', e⟩ := hsem x y hx hy hy2
      have hlen : (L2.start N [V.ref a]).length = n + 2 := by
        unfold L2.start
        rw [hN, List.length_append, List.length_replicate, List.length_map, List.length_singleton]
        omega
      refine ⟨G0 K, rfl, fun _ => False, En.only (n + 2) 1 (.own (.list [.int x, .int y])), rel_onlyOwn hlen (by omega) (.inl ⟨_, _, rfl, hp, .cons (.int x) (.cons (.int y) .nil)⟩), _, e, fun v σ' H' F' p rw => ?_⟩
      cases sh_inv rw
      exact q H'
end
end PD
set_option Elab.async false
set_option linter.all false
set_option maxRecDepth 100000
set_option maxHeartbeats 4000000
/-! PD18: what a walk over data comes to: the plain laws of the combinators. -/
namespace PD
set_option autoImplicit false
open PySem PySem.Spec L2
open PyProof.Rows hiding St

def isInt : D → Bool | .int _ => true | .bool _ => true | _ => false
def isBool : D → Bool | .bool _ => true | _ => false
def isTup : D → Bool | .tuple _ => true | _ => false
def isLst : D → Bool | .list _ => true | _ => false
def isStr : D → Bool | .str _ => true | _ => false
def isDic : D → Bool | .dict _ => true | _ => false
theorem isi_int (d : D) : bIsi "int" d = some (.sh (.bool (isInt d))) := by cases d <;> (show some (W.sh (.bool (isiB _ _))) = _) <;> simp only [tyD] <;> exact congrArg (fun b => some (W.sh (PyData.bool b))) (by first | (show _ = true; decide) | (show _ = false; decide))
theorem isi_bool (d : D) : bIsi "bool" d = some (.sh (.bool (isBool d))) := by cases d <;> (show some (W.sh (.bool (isiB _ _))) = _) <;> simp only [tyD] <;> exact congrArg (fun b => some (W.sh (PyData.bool b))) (by first | (show _ = true; decide) | (show _ = false; decide))
theorem isi_tuple (d : D) : bIsi "tuple" d = some (.sh (.bool (isTup d))) := by cases d <;> (show some (W.sh (.bool (isiB _ _))) = _) <;> simp only [tyD] <;> exact congrArg (fun b => some (W.sh (PyData.bool b))) (by first | (show _ = true; decide) | (show _ = false; decide))
theorem isi_list (d : D) : bIsi "list" d = some (.sh (.bool (isLst d))) := by cases d <;> (show some (W.sh (.bool (isiB _ _))) = _) <;> simp only [tyD] <;> exact congrArg (fun b => some (W.sh (PyData.bool b))) (by first | (show _ = true; decide) | (show _ = false; decide))
theorem isi_str (d : D) : bIsi "str" d = some (.sh (.bool (isStr d))) := by cases d <;> (show some (W.sh (.bool (isiB _ _))) = _) <;> simp only [tyD] <;> exact congrArg (fun b => some (W.sh (PyData.bool b))) (by first | (show _ = true; decide) | (show _ = false; decide))
theorem isi_dict (d : D) : bIsi "dict" d = some (.sh (.bool (isDic d))) := by cases d <;> (show some (W.sh (.bool (isiB _ _))) = _) <;> simp only [tyD] <;> exact congrArg (fun b => some (W.sh (PyData.bool b))) (by first | (show _ = true; decide) | (show _ = false; decide))

theorem get_sh (d : D) (ρ : En) : W.get ρ (.sh d) = some d := rfl
theorem get_fr (d : D) (ρ : En) : W.get ρ (.fr d) = some d := rfl
theorem get_vr (i : Nat) (ρ : En) : W.get ρ (.vr i) = ρ.at i := rfl
theorem give_vr (i : Nat) (ρ : En) : W.give ρ (.vr i) = match ρ.sl[i]? with
    | some (some (.sh d)) => some (d, ρ)
    | some (some (.own d)) => if ρ.cup = true ∧ i = 0 then none else some (d, { ρ with sl := ρ.sl.set i (some (.sh d)) })
    | _ => none := rfl
theorem give_sh (d : D) (ρ : En) : W.give ρ (.sh d) = some (d, ρ) := rfl
theorem give_fr (d : D) (ρ : En) : W.give ρ (.fr d) = some (d, ρ) := rfl
theorem tru_none : dTru .none = some false := rfl
theorem tru_bool (b : Bool) : dTru (.bool b) = some b := rfl
theorem tru_int (i : Int) : dTru (.int i) = some (i != 0) := rfl
theorem tru_list (xs : List D) : dTru (.list xs) = some (!xs.isEmpty) := rfl
theorem tru_tup (xs : List D) : dTru (.tuple xs) = some (!xs.isEmpty) := rfl
theorem len_list (xs : List D) : bLen (.list xs) = some (.sh (.int xs.length)) := rfl
theorem len_tup (xs : List D) : bLen (.tuple xs) = some (.sh (.int xs.length)) := rfl
theorem len_dict (xs : List (D × D)) : bLen (.dict xs) = some (.sh (.int (if isT xs = true then xs.tail.length else xs.length))) := rfl
theorem add_int (i j : Int) : bAdd (.int i) (.int j) = some (.sh (.int (i + j))) := rfl
theorem sub_int (i j : Int) : bSub (.int i) (.int j) = some (.sh (.int (i - j))) := rfl
theorem mul_int {i j : Int} (h : (-18446744073709551616 < i ∧ i < 18446744073709551616) ∨ (-18446744073709551616 < j ∧ j < 18446744073709551616)) : bMul (.int i) (.int j) = some (.sh (.int (i * j))) := if_pos h
theorem div_int {i j : Int} (h : 0 < j ∧ j < 1073741824) : bDiv (.int i) (.int j) = some (.sh (.int (i / j))) := if_pos h
theorem mod_int {i j : Int} (h : 0 < j) : bMod (.int i) (.int j) = some (.sh (.int (i % j))) := if_pos h
theorem mul_list {xs : List D} {k : Int} (h : 0 ≤ k ∧ k ≤ 1000 ∧ xs.length ≤ 1000) : bMul (.list xs) (.int k) = some (.fr (.list (List.replicate k.toNat xs).flatten)) := if_pos h
theorem mul_tup {xs : List D} {k : Int} (h : 1 ≤ k ∧ k ≤ 1000 ∧ xs.length ≤ 1000 ∧ xs ≠ []) : bMul (.tuple xs) (.int k) = some (.sh (.tuple (List.replicate k.toNat xs).flatten)) := if_pos h
theorem flat_one {α : Type} (x : α) : ∀ n : Nat, (List.replicate n [x]).flatten = List.replicate n x
  | 0 => rfl
  | n + 1 => by rw [List.replicate_succ, List.flatten_cons, flat_one x n]; rfl
theorem add_list {xs ys : List D} (h : xs.length + ys.length ≤ 16777216) : bAdd (.list xs) (.list ys) = some (.fr (.list (xs ++ ys))) := if_pos h
theorem int_int (i : Int) : bInt (.int i) = some (.sh (.int i)) := rfl
theorem abs_int (i : Int) : bAbs (.int i) = some (.sh (.int (if i < 0 then -i else i))) := rfl
theorem le_int (i j : Int) : cLe (.int i) (.int j) = some (decide (i ≤ j)) := rfl
theorem lt_int (i j : Int) : cLt (.int i) (.int j) = some (decide (i < j)) := rfl
theorem gt_int (i j : Int) : cGt (.int i) (.int j) = some (decide (j < i)) := rfl
theorem ge_int (i j : Int) : cGe (.int i) (.int j) = some (decide (j ≤ i)) := rfl
theorem shaped_int (i : Int) : SeqAt.shaped (.int i) = true := by
  show ((PyData.int i).canLay0 && decide ((PyData.int i).depth ≤ 64)) = true
  simp [PyData.canLay0, PyData.depth]
theorem eq_int (i j : Int) : cEq (.int i) (.int j) = some (decide (i = j)) := by
  unfold cEq
  rw [if_pos ⟨shaped_int i, shaped_int j⟩]
  show some (i == j) = _
  congr 1
theorem ne_int (i j : Int) : cNe (.int i) (.int j) = some (!decide (i = j)) := by
  unfold cNe
  rw [if_pos ⟨shaped_int i, shaped_int j⟩]
  show some (!(i == j)) = _
  congr 1
theorem shaped_bool (b : Bool) : SeqAt.shaped (.bool b) = true := by
  show ((PyData.bool b).canLay0 && decide ((PyData.bool b).depth ≤ 64)) = true
  simp [PyData.canLay0, PyData.depth]
theorem shaped_nil : SeqAt.shaped (.list []) = true := by
  show ((PyData.list []).canLay0 && decide ((PyData.list []).depth ≤ 64)) = true
  simp [PyData.canLay0, PyData.canLayAll0, PyData.depth, PyData.depthAll]
theorem ne_bool (a b : Bool) : cNe (.bool a) (.bool b) = some (!decide (a = b)) := by
  unfold cNe
  rw [if_pos ⟨shaped_bool a, shaped_bool b⟩]
  cases a <;> cases b <;> rfl
theorem eq_bool (a b : Bool) : cEq (.bool a) (.bool b) = some (decide (a = b)) := by
  unfold cEq
  rw [if_pos ⟨shaped_bool a, shaped_bool b⟩]
  cases a <;> cases b <;> rfl
theorem eq_nil : cEq (.list []) (.list []) = some true := by
  unfold cEq
  rw [if_pos ⟨shaped_nil, shaped_nil⟩]
  rfl
theorem ix_list {xs : List D} {i : Int} {d : D} (h : L2.atI xs i = some d) : bIx (.list xs) (.int i) = some (.sh d) := by
  show (L2.atI xs i).map W.sh = _
  rw [h]; rfl
theorem ix_tup {xs : List D} {i : Int} {d : D} (h : L2.atI xs i = some d) : bIx (.tuple xs) (.int i) = some (.sh d) := by
  show (L2.atI xs i).map W.sh = _
  rw [h]; rfl
theorem ix_listN {xs : List D} {i : Nat} {d : D} (h : xs[i]? = some d) : bIx (.list xs) (.int (i : Int)) = some (.sh d) := ix_list (atI_nat h)
theorem ix_tupN {xs : List D} {i : Nat} {d : D} (h : xs[i]? = some d) : bIx (.tuple xs) (.int (i : Int)) = some (.sh d) := ix_tup (atI_nat h)
theorem ix_tup0 (x : D) (xs : List D) : bIx (.tuple (x :: xs)) (.int 0) = some (.sh x) := ix_tup (atI_nat (j := 0) rfl)
theorem ix_tup1 (x y : D) (xs : List D) : bIx (.tuple (x :: y :: xs)) (.int 1) = some (.sh y) := ix_tup (atI_nat (j := 1) rfl)
theorem ix_tup2 (x y z : D) (xs : List D) : bIx (.tuple (x :: y :: z :: xs)) (.int 2) = some (.sh z) := ix_tup (atI_nat (j := 2) rfl)
theorem ix_tup3 (x y z u : D) (xs : List D) : bIx (.tuple (x :: y :: z :: u :: xs)) (.int 3) = some (.sh u) := ix_tup (atI_nat (j := 3) rfl)
theorem ix_list0 (x : D) (xs : List D) : bIx (.list (x :: xs)) (.int 0) = some (.sh x) := ix_list (atI_nat (j := 0) rfl)
theorem ix_list1 (x y : D) (xs : List D) : bIx (.list (x :: y :: xs)) (.int 1) = some (.sh y) := ix_list (atI_nat (j := 1) rfl)
theorem atI_back {α : Type} (xs : List α) (x : α) : L2.atI (xs ++ [x]) (-1) = some x := atI_last xs x
theorem neg_int (i : Int) (ρ : En) (fa : DE) (ρ1 : En) (h : fa ρ = some (.sh (.int i), ρ1)) : dNeg fa ρ = some (.sh (.int (-i)), ρ1) := by unfold dNeg; rw [h]; rfl
theorem tup_list (xs : List D) : bTuple (.list xs) = some (.sh (.tuple xs)) := rfl
theorem tup_tup (xs : List D) : bTuple (.tuple xs) = some (.sh (.tuple xs)) := rfl
theorem lst_list (xs : List D) : bList (.list xs) = some (.fr (.list xs)) := rfl
theorem lst_tup (xs : List D) : bList (.tuple xs) = some (.fr (.list xs)) := rfl
theorem tyD_list (xs : List D) : tyD (.list xs) = "list" := rfl
theorem tyD_dict (xs : List (D × D)) : tyD (.dict xs) = "dict" := rfl
theorem is_nn : cIs .none .none = some true := rfl
theorem is_bn (b : Bool) : cIs (.bool b) .none = some false := rfl
theorem is_in (b : Int) : cIs (.int b) .none = some false := rfl
theorem is_sn (b : Str) : cIs (.str b) .none = some false := rfl
theorem is_ln (b : List D) : cIs (.list b) .none = some false := rfl
theorem is_tn (b : List D) : cIs (.tuple b) .none = some false := rfl
theorem is_bb (a b : Bool) : cIs (.bool a) (.bool b) = some (decide (a = b)) := rfl
theorem isn_nn : cIsNot .none .none = some false := rfl
theorem isn_bn (b : Bool) : cIsNot (.bool b) .none = some true := rfl
theorem isn_in (b : Int) : cIsNot (.int b) .none = some true := rfl
theorem isn_sn (b : Str) : cIsNot (.str b) .none = some true := rfl
theorem isn_ln (b : List D) : cIsNot (.list b) .none = some true := rfl
theorem isn_tn (b : List D) : cIsNot (.tuple b) .none = some true := rfl
theorem isn_bb (a b : Bool) : cIsNot (.bool a) (.bool b) = some (!decide (a = b)) := rfl
theorem set_l0 (a b d : D) : sSet (.list [a, b]) (.int 0) d = some (.list [d, b]) := rfl
theorem set_l1 (a b d : D) : sSet (.list [a, b]) (.int 1) d = some (.list [a, d]) := rfl
theorem light_f (d : D) : light false d = imm d := rfl
theorem light_t (d : D) : light true d = inner d := rfl
theorem wOf_f (d : D) : wOf false d = .sh d := rfl
theorem wOf_t (d : D) : wOf true d = .fr d := rfl
theorem imm_none : imm .none = true := rfl
theorem imm_bool (b : Bool) : imm (.bool b) = true := rfl
theorem imm_int (i : Int) : imm (.int i) = true := rfl
theorem imm_str (x : Str) : imm (.str x) = true := rfl
theorem imm_tup (ds : List D) : imm (.tuple ds) = imms ds := rfl
theorem imm_list (ds : List D) : imm (.list ds) = false := rfl
theorem imms_nil : imms [] = true := rfl
theorem imms_cons (d : D) (ds : List D) : imms (d :: ds) = (imm d && imms ds) := rfl
theorem inner_list (ds : List D) : inner (.list ds) = imms ds := rfl
theorem dCmp_ap (sem : D → D → Option Bool) (fa fb : DE) (ρ : En) : dCmp sem fa fb ρ = dBin (wB sem) fa fb ρ := rfl
theorem app_list {xs : List D} (d : D) (h : xs.length < 16777216) : mApp (.list xs) [d] = some (.none, .list (xs ++ [d])) := if_pos h
theorem dTruT_eq (fa : DE) (ρ : En) : dTruT fa ρ = (fa ρ).bind fun x => (x.1.get x.2).bind fun a => (dTru a).map fun k => (k, x.2) := rfl
/-! ### loops -/
section
variable {α : Type} {emb : α → D} {tg : DG} {body : DS} {vs : List Nat}
/-- a loop by what holds of the rest and the slots; it may end early -/
theorem forGo_out {R : List α → En → Prop} {Q : Fl → Prop} (h0 : ∀ ρ, R [] ρ → Q (.nx ρ))
    (h : ∀ x xs ρ, R (x :: xs) ρ → ∃ ρ1 fl, tg (emb x) ρ = some ρ1 ∧ body ρ1 = some fl ∧ match fl with
      | .nx ρ2 => ∃ ρ3, ρ2.wipe vs = some ρ3 ∧ R xs ρ3
      | .ct ρ2 => ∃ ρ3, ρ2.wipe vs = some ρ3 ∧ R xs ρ3
      | .bk ρ2 => Q (.nx ρ2)
      | .rt w ρ2 => Q (.rt w ρ2)) : ∀ (xs : List α) (ρ : En), R xs ρ → ∃ fl, forGo tg body vs (xs.map emb) ρ = some fl ∧ Q fl
  | [], ρ, r => ⟨_, rfl, h0 ρ r⟩
  | x :: xs, ρ, r => by
    obtain ⟨ρ1, fl, e1, e2, q⟩ := h x xs ρ r
    rw [List.map_cons, forGo, e1, Option.bind_some, e2, Option.bind_some]
    cases fl with
    | nx ρ2 =>
      obtain ⟨ρ3, e3, r3⟩ := q
      simp only [e3, Option.bind_some]
      exact forGo_out h0 h xs ρ3 r3
    | ct ρ2 =>
      obtain ⟨ρ3, e3, r3⟩ := q
      simp only [e3, Option.bind_some]
      exact forGo_out h0 h xs ρ3 r3
    | bk ρ2 => exact ⟨_, rfl, q⟩
    | rt w ρ2 => exact ⟨_, rfl, q⟩
/-- one turn of a loop that goes on -/
def turnOf (tg : DG) (body : DS) (vs : List Nat) (d : D) (ρ : En) : Option En := (tg d ρ).bind fun ρ1 => (body ρ1).bind fun fl => match fl with
  | .nx ρ2 => ρ2.wipe vs
  | .ct ρ2 => ρ2.wipe vs
  | _ => none
theorem turn_gN {i : Nat} {d : D} {ρ ρ2 ρ3 : En} (hb : body ⟨ρ.cup, ρ.sl.set i (some (.sh d))⟩ = some (.nx ρ2)) (hw : ρ2.wipe vs = some ρ3) (hi : decide (i < ρ.sl.length) = true := by rfl) (hc : (ρ.cup && i == 0) = false := by rfl) :
    turnOf (gN i) body vs d ρ = some ρ3 := by
  have hi : i < ρ.sl.length := of_decide_eq_true hi
  have hc : ¬ (ρ.cup = true ∧ i = 0) := fun z => by
    rw [z.1, z.2] at hc
    cases hc
  unfold turnOf gN En.set
  rw [if_neg (fun z => z.elim hc fun y => y hi), Option.bind_some]
  show (body ⟨ρ.cup, ρ.sl.set i (some (.sh d))⟩).bind _ = _
  rw [hb, Option.bind_some]
  exact hw
theorem forGo_turn {d : D} {ds : List D} {ρ ρ' : En} (h : turnOf tg body vs d ρ = some ρ') : forGo tg body vs (d :: ds) ρ = forGo tg body vs ds ρ' := by
  obtain ⟨ρ1, e1, h⟩ := Option.bind_eq_some_iff.mp h
  obtain ⟨fl, e2, h⟩ := Option.bind_eq_some_iff.mp h
  rw [forGo, e1, Option.bind_some, e2, Option.bind_some]
  cases fl with
  | nx ρ2 =>
    have h : ρ2.wipe vs = some ρ' := h
    simp only [h, Option.bind_some]
  | ct ρ2 =>
    have h : ρ2.wipe vs = some ρ' := h
    simp only [h, Option.bind_some]
  | bk ρ2 => cases h
  | rt w ρ2 => cases h
/-- a loop that never ends early, its slots told by how far it went -/
theorem forGo_from (E : Nat → En) : ∀ (ds : List D) (n : Nat), (∀ i d, ds[i]? = some d → turnOf tg body vs d (E (n + i)) = some (E (n + i + 1))) →
    forGo tg body vs ds (E n) = some (.nx (E (n + ds.length)))
  | [], n, _ => rfl
  | d :: ds, n, h => by
    have h0 : turnOf tg body vs d (E n) = some (E (n + 1)) := h 0 d rfl
    rw [forGo_turn h0]
    have ih := forGo_from E ds (n + 1) fun i d' hd => by
      have := h (i + 1) d' (by rw [List.getElem?_cons_succ]; exact hd)
      rw [show n + 1 + i = n + (i + 1) by omega]
      exact this
    rw [ih, List.length_cons, show n + 1 + ds.length = n + (ds.length + 1) by omega]
theorem forGo_at (E : Nat → En) (ds : List D) (h : ∀ i d, ds[i]? = some d → turnOf tg body vs d (E i) = some (E (i + 1))) :
    forGo tg body vs ds (E 0) = some (.nx (E ds.length)) := by
  have := forGo_from (tg := tg) (body := body) (vs := vs) E ds 0 fun i d hd => by
    rw [Nat.zero_add]; exact h i d hd
  rwa [Nat.zero_add] at this
theorem dFor_at {fi : DI} {ρ : En} {n : Nat} (E : Nat → En) (ds : List D) (hf : fi ρ = some (ds, E 0)) (hn : ds.length = n) (h : ∀ i d, ds[i]? = some d → turnOf tg body vs d (E i) = some (E (i + 1))) :
    dFor fi tg body vs ρ = some (.nx (E n)) := by
  unfold dFor
  rw [hf, Option.bind_some, ← hn]
  exact forGo_at E ds h
/-- a loop that never ends early, its slots told by a state -/
theorem forGo_fold {S : Type} (E : S → En) (step : S → α → S) (I : S → Prop) (Ok : α → Prop) (h : ∀ x s, Ok x → I s → ∃ ρ1 ρ2, tg (emb x) (E s) = some ρ1 ∧ body ρ1 = some (.nx ρ2) ∧ ρ2.wipe vs = some (E (step s x)) ∧ I (step s x)) :
    ∀ (xs : List α) (s : S), (∀ x ∈ xs, Ok x) → I s → forGo tg body vs (xs.map emb) (E s) = some (.nx (E (xs.foldl step s))) ∧ I (xs.foldl step s)
  | [], s, _, i => ⟨rfl, i⟩
  | x :: xs, s, o, i => by
    obtain ⟨ρ1, ρ2, e1, e2, e3, i'⟩ := h x s (o x List.mem_cons_self) i
    rw [List.map_cons, forGo, e1, Option.bind_some, e2, Option.bind_some]
    simp only [e3, Option.bind_some]
    exact forGo_fold E step I Ok h xs _ (fun y hy => o y (List.mem_cons_of_mem _ hy)) i'
variable {ft : DT} {fe : DE}
/-- a comprehension whose slots stay as they are -/
theorem lcGo_map {E : En} (p : α → Bool) (k : α → D) : ∀ (xs : List α) (acc : List D), (∀ x ∈ xs, ∃ ρ1 ρ2, tg (emb x) E = some ρ1 ∧ ft ρ1 = some (p x, ρ2) ∧
      (p x = true → ∃ w ρ3 ρ4, fe ρ2 = some (w, ρ3) ∧ w.give ρ3 = some (k x, ρ4) ∧ ρ4.wipe vs = some E) ∧ (p x = false → ρ2.wipe vs = some E)) →
    lcGo tg ft fe vs (xs.map emb) acc E = some (acc ++ (xs.filter p).map k, E)
  | [], acc, _ => by rw [List.map_nil, lcGo, List.filter_nil, List.map_nil, List.append_nil]
  | x :: xs, acc, h => by
    obtain ⟨ρ1, ρ2, e1, e2, h1, h2⟩ := h x List.mem_cons_self
    have ih := fun a => lcGo_map p k xs a fun y hy => h y (List.mem_cons_of_mem _ hy)
    rw [List.map_cons, lcGo, e1, Option.bind_some, e2, Option.bind_some]
    cases hp : p x with
    | true =>
      obtain ⟨w, ρ3, ρ4, e3, e4, e5⟩ := h1 hp
      rw [if_pos rfl, e3, Option.bind_some, e4, Option.bind_some, e5, Option.bind_some, ih, List.filter_cons_of_pos hp, List.map_cons, List.append_assoc]
      rfl
    | false =>
      rw [if_neg (show ¬ (false = true) from Bool.false_ne_true), h2 hp, Option.bind_some, ih, List.filter_cons_of_neg (by rw [hp]; decide)]
theorem dLc_map {fi : DI} {ρ ρ0 ρe E : En} {ds : List D} (p : α → Bool) (k : α → D) (xs : List α) (h1 : fi ρ = some (ds, ρ0)) (hd : ds = xs.map emb) (hl : xs.length ≤ 16777216) (hw : ρ0.wipe vs = some E)
    (h : ∀ x ∈ xs, ∃ ρ1 ρ2, tg (emb x) E = some ρ1 ∧ ft ρ1 = some (p x, ρ2) ∧
      (p x = true → ∃ w ρ3 ρ4, fe ρ2 = some (w, ρ3) ∧ w.give ρ3 = some (k x, ρ4) ∧ ρ4.wipe vs = some E) ∧ (p x = false → ρ2.wipe vs = some E))
    (he : ({ E with sl := restoreS ρ0.sl E.sl vs } : En) = ρe) : dLc fi tg ft fe vs ρ = some (.fr (.list ((xs.filter p).map k)), ρe) := by
  unfold dLc
  rw [h1, Option.bind_some]
  simp only
  rw [if_pos (by rw [hd, List.length_map]; exact hl), hw, Option.bind_some, hd, lcGo_map p k xs [] h, Option.map_some, ← he, List.nil_append]
/-- without a test -/
theorem dLc_all {fi : DI} {ρ ρ0 ρe E : En} {ds : List D} (k : α → D) (xs : List α) (h1 : fi ρ = some (ds, ρ0)) (hd : ds = xs.map emb) (hl : xs.length ≤ 16777216) (hw : ρ0.wipe vs = some E)
    (h : ∀ x ∈ xs, ∃ ρ1 w ρ3 ρ4, tg (emb x) E = some ρ1 ∧ fe ρ1 = some (w, ρ3) ∧ w.give ρ3 = some (k x, ρ4) ∧ ρ4.wipe vs = some E)
    (he : ({ E with sl := restoreS ρ0.sl E.sl vs } : En) = ρe) : dLc fi tg dYes fe vs ρ = some (.fr (.list (xs.map k)), ρe) := by
  have := dLc_map (tg := tg) (ft := dYes) (fe := fe) (vs := vs) (emb := emb) (fun _ => true) k xs h1 hd hl hw (fun x hx => by
    obtain ⟨ρ1, w, ρ3, ρ4, e1, e2, e3, e4⟩ := h x hx
    exact ⟨ρ1, ρ1, e1, rfl, fun _ => ⟨w, ρ3, ρ4, e2, e3, e4⟩, fun z => by cases z⟩) he
  have e : xs.filter (fun _ => true) = xs := List.filter_eq_self.mpr fun _ _ => rfl
  rwa [e] at this
/-- a comprehension that changes slots: by what holds of the rest, what is made, and the slots -/
theorem lcGo_rel {R : List α → List D → En → Prop} (h : ∀ x xs acc ρ, R (x :: xs) acc ρ → ∃ ρ1 b ρ2, tg (emb x) ρ = some ρ1 ∧ ft ρ1 = some (b, ρ2) ∧
      (b = true → ∃ w ρ3 d ρ4 ρ5, fe ρ2 = some (w, ρ3) ∧ w.give ρ3 = some (d, ρ4) ∧ ρ4.wipe vs = some ρ5 ∧ R xs (acc ++ [d]) ρ5) ∧ (b = false → ∃ ρ5, ρ2.wipe vs = some ρ5 ∧ R xs acc ρ5)) :
    ∀ (xs : List α) (acc : List D) (ρ : En), R xs acc ρ → ∃ acc' ρ', lcGo tg ft fe vs (xs.map emb) acc ρ = some (acc', ρ') ∧ R [] acc' ρ'
  | [], acc, ρ, r => ⟨acc, ρ, rfl, r⟩
  | x :: xs, acc, ρ, r => by
    obtain ⟨ρ1, b, ρ2, e1, e2, h1, h2⟩ := h x xs acc ρ r
    rw [List.map_cons, lcGo, e1, Option.bind_some, e2, Option.bind_some]
    cases b with
    | true =>
      obtain ⟨w, ρ3, d, ρ4, ρ5, e3, e4, e5, r5⟩ := h1 rfl
      rw [if_pos rfl, e3, Option.bind_some, e4, Option.bind_some, e5, Option.bind_some]
      exact lcGo_rel h xs _ _ r5
    | false =>
      obtain ⟨ρ5, e5, r5⟩ := h2 rfl
      rw [if_neg (show ¬ (false = true) from Bool.false_ne_true), e5, Option.bind_some]
      exact lcGo_rel h xs _ _ r5
end

/-! ### comprehensions with one name -/
section
variable {α : Type} {emb : α → D}
def En.with (ρ : En) (i : Nat) (d : D) : En := ⟨ρ.cup, ρ.sl.set i (some (.sh d))⟩
theorem set_back {α : Type} {l : List α} {i : Nat} {x y : α} (h : l[i]? = some x) : (l.set i y).set i x = l := by
  obtain ⟨hl, e⟩ := List.getElem?_eq_some_iff.mp h
  rw [List.set_set, ← e, List.set_getElem_self]
theorem dLc_one {i : Nat} {ρ : En} {fi : DI} {ft : DT} {fe : DE} {ds : List D} (p : α → Bool) (k : α → D) (xs : List α) (h1 : fi ρ = some (ds, ρ)) (hd : ds = xs.map emb) (hl : xs.length ≤ 16777216)
    (ht : ∀ x ∈ xs, ft (ρ.with i (emb x)) = some (p x, ρ.with i (emb x)))
    (h : ∀ x ∈ xs, p x = true → fe (ρ.with i (emb x)) = some (.sh (k x), ρ.with i (emb x)) ∨ fe (ρ.with i (emb x)) = some (.fr (k x), ρ.with i (emb x)))
    (hi : decide (i < ρ.sl.length) = true := by rfl) (hc : (ρ.cup && i == 0) = false := by rfl) :
    dLc fi (gN i) ft fe [i] ρ = some (.fr (.list ((xs.filter p).map k)), ρ) := by
  have hi : i < ρ.sl.length := of_decide_eq_true hi
  have hc : ¬ (ρ.cup = true ∧ i = 0) := fun z => by
    rw [z.1, z.2] at hc
    cases hc
  have hc' : ¬ (ρ.cup = true ∧ 0 ∈ [i]) := fun z => hc ⟨z.1, (by simpa using z.2 : 0 = i).symm⟩
  have w1 : ∀ d, (ρ.with i d).wipe [i] = some ⟨ρ.cup, ρ.sl.set i none⟩ := fun d => by
    unfold En.wipe En.with
    rw [if_neg hc']
    simp only [wipeS, List.set_set]
  refine dLc_map (E := ⟨ρ.cup, ρ.sl.set i none⟩) p k xs h1 hd hl (by unfold En.wipe; rw [if_neg hc']; rfl) (fun x hx => ⟨ρ.with i (emb x), ρ.with i (emb x), ?_, ht x hx, fun hp => ?_, fun _ => w1 _⟩) ?_
  · unfold gN En.set
    have n1 : ¬ ((ρ.cup = true ∧ i = 0) ∨ ¬ i < (ρ.sl.set i none).length) := fun z => z.elim hc fun y => y (by rw [List.length_set]; exact hi)
    rw [if_neg n1]
    simp only [List.set_set]
    rfl
  · rcases h x hx hp with e | e
    · exact ⟨_, _, _, e, rfl, w1 _⟩
    · exact ⟨_, _, _, e, rfl, w1 _⟩
  · have e : ρ.sl[i]? = some ρ.sl[i] := List.getElem?_eq_getElem hi
    show (⟨ρ.cup, (ρ.sl.set i none).set i ((ρ.sl[i]?).getD none)⟩ : En) = ρ
    rw [e, Option.getD_some, set_back e]
theorem dLc_sh {i : Nat} {ρ : En} {fi : DI} {fe : DE} {ds : List D} (k : α → D) (xs : List α) (h1 : fi ρ = some (ds, ρ)) (hd : ds = xs.map emb) (hl : xs.length ≤ 16777216)
    (h : ∀ x ∈ xs, fe (ρ.with i (emb x)) = some (.sh (k x), ρ.with i (emb x))) (hi : decide (i < ρ.sl.length) = true := by rfl) (hc : (ρ.cup && i == 0) = false := by rfl) : dLc fi (gN i) dYes fe [i] ρ = some (.fr (.list (xs.map k)), ρ) := by
  have := dLc_one (ft := dYes) (fe := fe) (fun _ => true) k xs h1 hd hl (fun _ _ => rfl) (fun x hx _ => .inl (h x hx)) hi hc
  have e : xs.filter (fun _ => true) = xs := List.filter_eq_self.mpr fun _ _ => rfl
  rwa [e] at this
theorem dLc_fr {i : Nat} {ρ : En} {fi : DI} {fe : DE} {ds : List D} (k : α → D) (xs : List α) (h1 : fi ρ = some (ds, ρ)) (hd : ds = xs.map emb) (hl : xs.length ≤ 16777216)
    (h : ∀ x ∈ xs, fe (ρ.with i (emb x)) = some (.fr (k x), ρ.with i (emb x))) (hi : decide (i < ρ.sl.length) = true := by rfl) (hc : (ρ.cup && i == 0) = false := by rfl) : dLc fi (gN i) dYes fe [i] ρ = some (.fr (.list (xs.map k)), ρ) := by
  have := dLc_one (ft := dYes) (fe := fe) (fun _ => true) k xs h1 hd hl (fun _ _ => rfl) (fun x hx _ => .inr (h x hx)) hi hc
  have e : xs.filter (fun _ => true) = xs := List.filter_eq_self.mpr fun _ _ => rfl
  rwa [e] at this
end
/-- a comprehension that goes on from state to state -/
theorem dLc_thr {S : Type} (E : S → En) (I : S → Prop) (P : D → Prop) {i : Nat} {o : Option Sl} {fi : DI} {fe : DE} {ds : List D} {s0 : S} (h1 : fi (E s0) = some (ds, E s0)) (hl : ds.length ≤ 16777216) (i0 : I s0)
    (h : ∀ d ∈ ds, ∀ s, I s → ∃ s' w y, fe ((E s).with i d) = some (w, (E s').with i d) ∧ (w = .sh y ∨ w = .fr y) ∧ I s' ∧ P y)
    (hi : ∀ s, (E s).sl[i]? = some o := by intro _; rfl) (hc : ∀ s, ((E s).cup && i == 0) = false := by intro _; rfl) :
    ∃ s' ys, dLc fi (gN i) dYes fe [i] (E s0) = some (.fr (.list ys), E s') ∧ I s' ∧ ys.length = ds.length ∧ ∀ y ∈ ys, P y := by
  have hi' : ∀ s, i < (E s).sl.length := fun s => (List.getElem?_eq_some_iff.mp (hi s)).1
  have hc' : ∀ s, ¬ ((E s).cup = true ∧ i = 0) := fun s z => by
    have := hc s
    rw [z.1, z.2] at this
    cases this
  have hcw : ∀ s, ¬ ((E s).cup = true ∧ 0 ∈ [i]) := fun s z => hc' s ⟨z.1, (by simpa using z.2 : 0 = i).symm⟩
  have w0 : ∀ s, (E s).wipe [i] = some ⟨(E s).cup, (E s).sl.set i none⟩ := fun s => by unfold En.wipe; rw [if_neg (hcw s)]; rfl
  have w1 : ∀ s d, ((E s).with i d).wipe [i] = some ⟨(E s).cup, (E s).sl.set i none⟩ := fun s d => by
    unfold En.wipe En.with
    rw [if_neg (hcw s)]
    simp only [wipeS, List.set_set]
  obtain ⟨ys, ρ', e, s', ei, hI, hn, hP⟩ := lcGo_rel (emb := id) (tg := gN i) (ft := dYes) (fe := fe) (vs := [i]) (R := fun rest acc ρ => ∃ s, ρ = ⟨(E s).cup, (E s).sl.set i none⟩ ∧ I s ∧ acc.length + rest.length = ds.length ∧ (∀ y ∈ acc, P y) ∧ ∀ d ∈ rest, d ∈ ds) (fun x xs acc ρ hr => by
    obtain ⟨s, rfl, hI, hn, hP, hs⟩ := hr
    obtain ⟨s', w, y, e, hw, hI', hy⟩ := h x (hs x List.mem_cons_self) s hI
    have n1 : ¬ (((E s).cup = true ∧ i = 0) ∨ ¬ i < ((E s).sl.set i none).length) := fun z => z.elim (hc' s) fun k => k (by rw [List.length_set]; exact hi' s)
    refine ⟨(E s).with i x, true, (E s).with i x, ?_, rfl, fun _ => ?_, fun z => by cases z⟩
    · show (if _ then _ else _) = _
      rw [if_neg n1]
      simp only [List.set_set]
      rfl
    · refine ⟨w, _, y, (E s').with i x, _, e, ?_, w1 s' x, s', rfl, hI', ?_, ?_, fun d hd => hs d (List.mem_cons_of_mem _ hd)⟩
      · rcases hw with rfl | rfl <;> rfl
      · rw [List.length_append, List.length_singleton]
        rw [List.length_cons] at hn
        omega
      · intro z hz
        rcases List.mem_append.mp hz with hz | hz
        · exact hP z hz
        · rw [List.mem_singleton.mp hz]; exact hy) ds [] ⟨(E s0).cup, (E s0).sl.set i none⟩ ⟨s0, rfl, i0, by simp, by simp, fun d hd => hd⟩
  rw [List.map_id] at e
  subst ei
  refine ⟨s', ys, ?_, hI, by simpa using hn, hP.1⟩
  unfold dLc
  rw [h1, Option.bind_some]
  simp only
  rw [if_pos hl, w0, Option.bind_some, e, Option.map_some]
  congr 3
  show ((E s').sl.set i none).set i (((E s0).sl[i]?).getD none) = (E s').sl
  rw [hi s0, Option.getD_some, set_back (hi s')]
/-- where the walked thing's evaluation changes the slots -/
theorem dLc_from {fi : DI} {tg : DG} {ft : DT} {fe : DE} {vs : List Nat} {ρ ρ0 : En} {ds : List D} (h : fi ρ = some (ds, ρ0)) : dLc fi tg ft fe vs ρ = dLc (fun _ => some (ds, ρ0)) tg ft fe vs ρ0 := by
  unfold dLc
  rw [h]
theorem dFor_from {fi : DI} {tg : DG} {body : DS} {vs : List Nat} {ρ ρ0 : En} {ds : List D} (h : fi ρ = some (ds, ρ0)) : dFor fi tg body vs ρ = forGo tg body vs ds ρ0 := by
  unfold dFor
  rw [h]
  rfl
theorem dSet_fr {i : Nat} {fa : DE} {ρ ρ1 : En} {d : D} (h : fa ρ = some (.fr d, ρ1)) : dSet i fa ρ = (ρ1.set i (.own d)).map .nx := by
  unfold dSet
  rw [h, Option.bind_some]
  simp only [settle, Option.map_some, Option.bind_some, puts, En.put]
  cases ρ1.set i (.own d) <;> rfl
theorem dSet_sh {i : Nat} {fa : DE} {ρ ρ1 : En} {d : D} (h : fa ρ = some (.sh d, ρ1)) : dSet i fa ρ = (ρ1.set i (.sh d)).map .nx := by
  unfold dSet
  rw [h, Option.bind_some]
  simp only [settle, Option.map_some, Option.bind_some, puts, En.put]
  cases ρ1.set i (.sh d) <;> rfl
theorem bAll_bools (bs : List Bool) : bAll (.list (bs.map .bool)) = some (.sh (.bool (bs.all id))) := by
  simp only [bAll, bools?_map, Option.map_some]
theorem bAll_true {α : Type} {l : List α} {k : α → D} (h : ∀ x ∈ l, k x = .bool true) : bAll (.list (l.map k)) = some (.sh (.bool true)) := by
  have e : l.map k = (l.map fun _ => true).map PyData.bool := by
    rw [List.map_map]
    exact List.map_congr_left h
  rw [e, bAll_bools]
  congr 3
  simp
theorem bSum_ints (ns : List Int) : bSum (.list (ns.map .int)) = some (.sh (.int ns.sum)) := by
  simp only [bSum, ints?_map, Option.map_some]
theorem bSum_intsT (ns : List Int) : bSum (.tuple (ns.map .int)) = some (.sh (.int ns.sum)) := by
  simp only [bSum, ints?_map, Option.map_some]

/-! ### places -/
theorem map_at {α : Type} {emb : α → D} {xs : List α} {i : Nat} {d : D} (h : (xs.map emb)[i]? = some d) : ∃ x, xs[i]? = some x ∧ d = emb x := by
  rw [List.getElem?_map] at h
  obtain ⟨x, e1, e2⟩ := Option.map_eq_some_iff.mp h
  exact ⟨x, e1, e2.symm⟩
theorem enD_at {xs : List D} {i : Nat} {d : D} (h : (enD xs)[i]? = some d) : ∃ x, xs[i]? = some x ∧ d = .tuple [.int (i : Int), x] := by
  unfold enD zipD at h
  rw [List.getElem?_zipWith_eq_some] at h
  obtain ⟨a, b, h1, h2, h3⟩ := h
  rw [List.getElem?_map] at h1
  obtain ⟨j, e1, e2⟩ := Option.map_eq_some_iff.mp h1
  obtain ⟨hj, e3⟩ := List.getElem?_eq_some_iff.mp e1
  rw [List.getElem_range] at e3
  subst e3
  exact ⟨b, h2, by rw [← h3, ← e2]⟩
theorem enD_len (xs : List D) : (enD xs).length = xs.length := by
  unfold enD zipD
  rw [List.length_zipWith, List.length_map, List.length_range, Nat.min_self]
theorem zipD_at {xs ys : List D} {i : Nat} {d : D} (h : (zipD xs ys)[i]? = some d) : ∃ x y, xs[i]? = some x ∧ ys[i]? = some y ∧ d = .tuple [x, y] := by
  unfold zipD at h
  rw [List.getElem?_zipWith_eq_some] at h
  obtain ⟨a, b, h1, h2, h3⟩ := h
  exact ⟨a, b, h1, h2, h3.symm⟩
theorem rgD_at {lo : Int} {n i : Nat} {d : D} (h : (rgD lo n)[i]? = some d) : i < n ∧ d = .int (lo + (i : Int)) := by
  refine ⟨?_, rgD_get h⟩
  have := (List.getElem?_eq_some_iff.mp h).1
  unfold rgD at this
  simpa using this
theorem rgD_len (lo : Int) (n : Nat) : (rgD lo n).length = n := by unfold rgD; simp
theorem rgD_nat (n : Nat) : rgD 0 n = (List.range n).map fun (i : Nat) => PyData.int (i : Int) := by
  unfold rgD
  exact List.map_congr_left fun i _ => by rw [Int.zero_add]
theorem range_at {α : Type} {f : Nat → α} {n j : Nat} (h : j < n) : ((List.range n).map f)[j]? = some (f j) := by
  rw [List.getElem?_map, List.getElem?_range h]; rfl
theorem range_last {α : Type} (f : Nat → α) (n : Nat) : (List.range (n + 1)).map f = (List.range n).map f ++ [f n] := by
  rw [List.range_succ, List.map_append]; rfl
theorem rg1_at {fa : DE} {ρ ρ1 : En} {n : Nat} (h : fa ρ = some (.sh (.int (n : Int)), ρ1)) (hn : n < 4611686018427387904) : dRg1 fa ρ = some (rgD 0 n, ρ1) := by
  unfold dRg1
  rw [h, Option.bind_some]
  simp only
  rw [if_pos (show okRg (n : Int) from ⟨by omega, by omega⟩), Int.toNat_natCast]
theorem rg2_at {fa fb : DE} {ρ ρ1 ρ2 : En} {a b : Int} (h1 : fa ρ = some (.sh (.int a), ρ1)) (h2 : fb ρ1 = some (.sh (.int b), ρ2)) (ha : -4611686018427387904 ≤ a ∧ a < 4611686018427387904) (hb : -4611686018427387904 ≤ b ∧ b < 4611686018427387904) :
    dRg2 fa fb ρ = some (rgD a (b - a).toNat, ρ2) := by
  unfold dRg2
  rw [h1, Option.bind_some]
  simp only
  rw [h2, Option.bind_some]
  simp only
  rw [if_pos (show okRg a ∧ okRg b from ⟨ha, hb⟩)]
theorem dVar_sh {i : Nat} {ρ : En} {d : D} (h : ρ.sl[i]? = some (some (.sh d))) : dVar i ρ = some (.sh d, ρ) := by unfold dVar; rw [h]
theorem rg1_var {i : Nat} {ρ : En} {n : Nat} (h : ρ.sl[i]? = some (some (.sh (.int (n : Int))))) (hn : n < 4611686018427387904) : dRg1 (dVar i) ρ = some (rgD 0 n, ρ) := rg1_at (dVar_sh h) hn
theorem rg2_vars {i j : Nat} {ρ : En} {a b : Nat} (h1 : ρ.sl[i]? = some (some (.sh (.int (a : Int))))) (h2 : ρ.sl[j]? = some (some (.sh (.int (b : Int))))) (ha : a ≤ 1000000) (hb : b ≤ 1000000) :
    dRg2 (dVar i) (dVar j) ρ = some (rgD (a : Int) (b - a), ρ) := by
  rw [rg2_at (dVar_sh h1) (dVar_sh h2) ⟨by omega, by omega⟩ ⟨by omega, by omega⟩, show ((b : Int) - (a : Int)).toNat = b - a by omega]
theorem dAugL_at {i : Nat} {fe : DE} {ρ ρ1 : En} {w : W} {xs ys : List D} (h1 : fe ρ = some (w, ρ1)) (hl : xs.length + ys.length ≤ 16777216) (h0 : ρ.mine i = some (.list xs) := by rfl) (h2 : w.get ρ1 = some (.list ys) := by rfl) (h3 : ρ1.mine i = some (.list xs) := by rfl) :
    dAugL i fe ρ = some (.nx (ρ1.own i (.list (xs ++ ys)))) := by
  unfold dAugL
  rw [h0, Option.bind_some, h1, Option.bind_some]
  simp only [h2, h3, Option.bind_some]
  rw [if_pos hl]
theorem dB1_at {sem : D → Option W} {fa : DE} {ρ ρ1 : En} {w u : W} {a : D} (h : fa ρ = some (w, ρ1)) (hs : sem a = some u) (hg : w.get ρ1 = some a := by rfl) : dB1 sem fa ρ = some (u, ρ1) := by
  unfold dB1
  rw [h, Option.bind_some]
  simp only [hg, Option.bind_some, hs, Option.map_some]
theorem dSeq_nx {f1 f2 : DS} {ρ ρ1 : En} (h : f1 ρ = some (.nx ρ1)) : dSeq f1 f2 ρ = f2 ρ1 := by unfold dSeq; rw [h]; rfl
theorem dSeq_rt {f1 f2 : DS} {ρ ρ1 : En} {w : W} (h : f1 ρ = some (.rt w ρ1)) : dSeq f1 f2 ρ = some (.rt w ρ1) := by unfold dSeq; rw [h]; rfl
/-! ### sizes -/
theorem imms_map_int (ns : List Int) : imms (ns.map PyData.int) = true := by
  induction ns with
  | nil => rfl
  | cons n ns ih => rw [List.map_cons, imms, ih]; rfl
theorem imms_map {α : Type} {k : α → D} (h : ∀ x, imm (k x) = true) (l : List α) : imms (l.map k) = true := by
  induction l with
  | nil => rfl
  | cons n ns ih => rw [List.map_cons, imms, ih, h]; rfl
end PD
set_option Elab.async false
set_option linter.all false
set_option maxRecDepth 100000
set_option maxHeartbeats 4000000
/-! PD19: x in y; {}; sorted; max, min of a tuple. -/
namespace PD
set_option autoImplicit false
open PySem PySem.Spec L2
open PyProof.Rows hiding St

/-! ### in, not in -/
def cIn : D → D → Option Bool
  | d, .list xs => if SeqAt.shaped d = true ∧ SeqAt.shaped (.list xs) = true then some (xs.any fun z => PyData.eqv z d) else none
  | d, .tuple xs => if SeqAt.shaped d = true ∧ SeqAt.shaped (.tuple xs) = true then some (xs.any fun z => PyData.eqv z d) else none
  | d, .dict kvs => (dAt (isT kvs) (.dict kvs) d).map fun o => o.isSome
  | _, _ => none
def cNotIn : D → D → Option Bool := fun a b => (cIn a b).map (!·)
section
variable {X : Cx}
theorem dtop_ref {K : PySem.W.Frag} {F : Rg} {H : Hp} {kvs : List (D × D)} {v : V} (h : Dtop K F H (.dict kvs) v) : ∃ c, v = .ref c := by
  rcases h with ⟨a, _, rfl, _⟩ | ⟨a, _, _, _, rfl, _⟩ <;> exact ⟨a, rfl⟩
theorem in_read {K : PySem.W.Frag} {F : Rg} {H : Hp} {a b : D} {va vb : V} {k : Bool} (ha : Dtop K F H a va) (hb : Dtop K F H b vb) (e : cIn a b = some k) :
    (∃ ds, Dp K H va a ∧ Dp K H vb (.list ds) ∧ SeqAt.shaped a = true ∧ SeqAt.shaped (.list ds) = true ∧ k = ds.any fun z => PyData.eqv z a) ∨
    (∃ ds, Dp K H va a ∧ Dp K H vb (.tuple ds) ∧ SeqAt.shaped a = true ∧ SeqAt.shaped (.tuple ds) = true ∧ k = ds.any fun z => PyData.eqv z a) ∨
    (∃ c ov, vb = .ref c ∧ (DGet H c va ov ∨ TGet K H c va ov) ∧ k = ov.isSome) := by
  cases b with
  | list xs =>
    have e : (if SeqAt.shaped a = true ∧ SeqAt.shaped (.list xs) = true then some (xs.any fun z => PyData.eqv z a) else none) = some k := by cases a <;> exact e
    split at e
    · rename_i h
      cases e
      exact .inl ⟨xs, ha.all.dp h.1, hb.all.dp h.2, h.1, h.2, rfl⟩
    · cases e
  | tuple xs =>
    have e : (if SeqAt.shaped a = true ∧ SeqAt.shaped (.tuple xs) = true then some (xs.any fun z => PyData.eqv z a) else none) = some k := by cases a <;> exact e
    split at e
    · rename_i h
      cases e
      exact .inr (.inl ⟨xs, ha.all.dp h.1, hb.all.dp h.2, h.1, h.2, rfl⟩)
    · cases e
  | dict kvs =>
    have e : (dAt (isT kvs) (.dict kvs) a).map (fun o => o.isSome) = some k := by cases a <;> exact e
    obtain ⟨oo, e1, rfl⟩ := Option.map_eq_some_iff.mp e
    obtain ⟨c, rfl⟩ := dtop_ref hb
    obtain ⟨ov, g1, g2⟩ := dAt_read hb ha e1
    refine .inr (.inr ⟨c, ov, rfl, g1.imp (·.2) (·.2), ?_⟩)
    rcases g2 with ⟨rfl, rfl⟩ | ⟨d, v, rfl, rfl, _⟩ <;> rfl
  | _ => cases a <;> cases e
theorem c2_in (hu : X.A.units + 65 < cLine) : C2 X .In cIn := by
  refine ⟨_, (op_inD hu).or ((op_inD2 hu).or ((op_inK (by omega)).or (op_inT (by omega)))), fun F H a b va vb k Q ha hb e q => ?_⟩
  rcases in_read ha hb e with ⟨ds, h1, h2, h3, h4, rfl⟩ | ⟨ds, h1, h2, h3, h4, rfl⟩ | ⟨c, ov, rfl, g, rfl⟩
  · exact .inl ⟨_, ds, h1, h2, h3, h4, q⟩
  · exact .inr (.inl ⟨_, ds, h1, h2, h3, h4, q⟩)
  · rcases g with g | g
    · exact .inr (.inr (.inl ⟨c, ov, rfl, g, q⟩))
    · exact .inr (.inr (.inr ⟨c, ov, rfl, g, q⟩))
theorem c2_notIn (hu : X.A.units + 65 < cLine) : C2 X .NotIn cNotIn := by
  refine ⟨_, (op_notInD hu).or ((op_notInD2 hu).or ((op_notInK (by omega)).or (op_notInT (by omega)))), fun F H a b va vb k Q ha hb e q => ?_⟩
  obtain ⟨k0, e0, rfl⟩ := Option.map_eq_some_iff.mp e
  rcases in_read ha hb e0 with ⟨ds, h1, h2, h3, h4, rfl⟩ | ⟨ds, h1, h2, h3, h4, rfl⟩ | ⟨c, ov, rfl, g, rfl⟩
  · exact .inl ⟨_, ds, h1, h2, h3, h4, q⟩
  · exact .inr (.inl ⟨_, ds, h1, h2, h3, h4, q⟩)
  · rcases g with g | g
    · exact .inr (.inr (.inl ⟨c, ov, rfl, g, q⟩))
    · exact .inr (.inr (.inr ⟨c, ov, rfl, g, q⟩))
end
/-! ### {} -/
def dNewK : DE := fun ρ => some (.fr (.dict []), ρ)
def dNewT : DE := fun ρ => some (.fr (tD []), ρ)
section
variable {X : Cx} {pos : Pos}
theorem ped_newK : PED X (.Dict [] [] pos) dNewK := fun g hg => pe_dnewK.wk fun σ H Q t => by
  obtain ⟨F, ρ, r0, w, ρ', e, q⟩ := t
  cases e
  exact fun p hp => q _ _ F (EPo.newObj r0 hp (.inr (.inl ⟨[], [], rfl, upd_same, .nil⟩)))
theorem ped_newT : PED X (.Dict [] [] pos) dNewT := fun g hg => pe_dnewX.wk fun σ H Q t => by
  obtain ⟨F, ρ, r0, w, ρ', e, q⟩ := t
  cases e
  exact fun p hp => q _ _ F (EPo.newObj r0 hp (.inr (.inr ⟨[], [], rfl, upd_same, .nil⟩)))
end
/-! ### sorted -/
/-- pairs of whole numbers -/
def prs? : List D → Option (List (Int × Int))
  | [] => some []
  | .tuple [.int i, .int j] :: r => (prs? r).map ((i, j) :: ·)
  | _ => none
def prD (p : Int × Int) : D := .tuple [.int p.1, .int p.2]
def ltPr (p q : Int × Int) : Bool := decide (p.1 < q.1 ∨ (p.1 = q.1 ∧ p.2 < q.2))
def insPr (p : Int × Int) : List (Int × Int) → List (Int × Int)
  | [] => [p]
  | q :: r => if ltPr q p = true then q :: insPr p r else p :: q :: r
def sortPr : List (Int × Int) → List (Int × Int)
  | [] => []
  | p :: r => insPr p (sortPr r)
def insI (p : Int) : List Int → List Int
  | [] => [p]
  | q :: r => if q < p then q :: insI p r else p :: q :: r
def sortI : List Int → List Int
  | [] => []
  | p :: r => insI p (sortI r)
def bSort : D → Option W
  | .list xs => match ints? xs with
    | some ns => some (.fr (.list ((sortI ns).map .int)))
    | none => (prs? xs).map fun ps => .fr (.list ((sortPr ps).map prD))
  | _ => none
theorem insI_perm (p : Int) : ∀ l, (insI p l).Perm (p :: l)
  | [] => .refl _
  | q :: r => by
    unfold insI
    split
    · exact ((insI_perm p r).cons q).trans (.swap p q r)
    · exact .refl _
theorem sortI_perm : ∀ l, (sortI l).Perm l
  | [] => .refl _
  | p :: r => (insI_perm p _).trans ((sortI_perm r).cons p)
theorem insI_sorted (p : Int) : ∀ l : List Int, l.Pairwise (· ≤ ·) → (insI p l).Pairwise (· ≤ ·)
  | [], _ => List.pairwise_singleton _ _
  | q :: r, h => by
    obtain ⟨h1, h2⟩ := List.pairwise_cons.mp h
    unfold insI
    split
    · refine List.pairwise_cons.mpr ⟨fun x hx => ?_, insI_sorted p r h2⟩
      rcases List.mem_cons.mp ((insI_perm p r).mem_iff.mp hx) with rfl | hx
      · omega
      · exact h1 x hx
    · refine List.pairwise_cons.mpr ⟨fun x hx => ?_, h⟩
      rcases List.mem_cons.mp hx with rfl | hx
      · omega
      · have := h1 x hx; omega
theorem sortI_sorted : ∀ l : List Int, (sortI l).Pairwise (· ≤ ·)
  | [] => .nil
  | p :: r => insI_sorted p _ (sortI_sorted r)
theorem insPr_perm (p : Int × Int) : ∀ l, (insPr p l).Perm (p :: l)
  | [] => .refl _
  | q :: r => by
    unfold insPr
    split
    · exact ((insPr_perm p r).cons q).trans (.swap p q r)
    · exact .refl _
theorem sortPr_perm : ∀ l, (sortPr l).Perm l
  | [] => .refl _
  | p :: r => (insPr_perm p _).trans ((sortPr_perm r).cons p)
/-- not behind -/
def lePr (p q : Int × Int) : Prop := p.1 < q.1 ∨ (p.1 = q.1 ∧ p.2 ≤ q.2)
theorem lePr_anti {p q : Int × Int} (h : lePr p q) (k : lePr q p) : p = q := by
  obtain ⟨a, b⟩ := p
  obtain ⟨c, d⟩ := q
  unfold lePr at h k
  simp only at h k
  have : a = c ∧ b = d := by omega
  rw [this.1, this.2]
theorem insPr_sorted (p : Int × Int) : ∀ l : List (Int × Int), l.Pairwise lePr → (insPr p l).Pairwise lePr
  | [], _ => List.pairwise_singleton _ _
  | q :: r, h => by
    obtain ⟨h1, h2⟩ := List.pairwise_cons.mp h
    unfold insPr
    split
    · rename_i hc
      have hc := of_decide_eq_true hc
      refine List.pairwise_cons.mpr ⟨fun x hx => ?_, insPr_sorted p r h2⟩
      rcases List.mem_cons.mp ((insPr_perm p r).mem_iff.mp hx) with rfl | hx
      · unfold lePr; omega
      · exact h1 x hx
    · rename_i hc
      have hc : ¬ (q.1 < p.1 ∨ (q.1 = p.1 ∧ q.2 < p.2)) := fun z => hc (decide_eq_true z)
      refine List.pairwise_cons.mpr ⟨fun x hx => ?_, h⟩
      rcases List.mem_cons.mp hx with rfl | hx
      · unfold lePr; omega
      · have := h1 x hx; unfold lePr at this ⊢; omega
theorem sortPr_sorted : ∀ l : List (Int × Int), (sortPr l).Pairwise lePr
  | [] => .nil
  | p :: r => insPr_sorted p _ (sortPr_sorted r)
theorem perm_sorted_eq {α : Type} {R : α → α → Prop} (anti : ∀ a b, R a b → R b a → a = b) : ∀ {l m : List α}, l.Perm m → l.Pairwise R → m.Pairwise R → l = m
  | [], m, p, _, _ => p.nil_eq
  | a :: l, [], p, _, _ => by simpa using p.length_eq
  | a :: l, b :: m, p, h, k => by
    obtain ⟨h1, h2⟩ := List.pairwise_cons.mp h
    obtain ⟨k1, k2⟩ := List.pairwise_cons.mp k
    have e : a = b := by
      rcases List.mem_cons.mp (p.mem_iff.mp (List.mem_cons_self (a := a) (l := l))) with e | ha
      · exact e
      · rcases List.mem_cons.mp (p.mem_iff.mpr (List.mem_cons_self (a := b) (l := m))) with e | hb
        · exact e.symm
        · exact anti _ _ (h1 b hb) (k1 a ha)
    subst e
    rw [perm_sorted_eq anti (List.Perm.cons_inv p) h2 k2]
theorem prs?_some : ∀ {xs : List D} {ps : List (Int × Int)}, prs? xs = some ps → xs = ps.map prD
  | [], _, e => by cases e; rfl
  | d :: r, ps, e => by
    unfold prs? at e
    split at e
    · rename_i heq; cases heq
    · rename_i i j r' heq
      cases heq
      obtain ⟨ps', e1, rfl⟩ := Option.map_eq_some_iff.mp e
      rw [prs?_some e1]
      rfl
    · cases e
theorem prs?_map : ∀ ps : List (Int × Int), prs? (ps.map prD) = some ps
  | [] => rfl
  | p :: ps => by
    rw [List.map_cons]
    show (prs? (ps.map prD)).map _ = _
    rw [prs?_map ps]
    rfl
section
variable {X : Cx}
/-- a value that reads as a pair -/
theorem pair_read {K : PySem.W.Frag} {F : Rg} {H : Hp} {p : Int × Int} {v : V} (h : Dt K F H (prD p) v) : ∃ t, v = .ref t ∧ SqT K H t [.int p.1, .int p.2] := by
  cases h with
  | tup sq hh =>
    cases hh with
    | cons h1 hh =>
      cases hh with
      | cons h2 hh =>
        cases hh
        cases h1
        cases h2
        exact ⟨_, rfl, sq⟩
theorem cr_sortedPX : CallR X (.builtin "sorted") (fun vs H Q => ∃ (a : Addr) (xs : List V) (k : V → Int × Int), vs = [V.ref a] ∧ SqL X.K H a xs ∧ (∀ x ∈ xs, ∃ t, x = V.ref t ∧ SqT X.K H t [.int (k x).1, .int (k x).2]) ∧
    ∀ ys p, SrtO.Srtd (ltP k) ys → SrtO.Stb (ltP k) ys xs → H p = none → Q (.ref p) (upd H p (.lst ys))) := by
  intro pins s σ H vs us Q I r h
  obtain ⟨a, xs, k, rfl, hs, hx, q⟩ := h
  obtain ⟨its, rv, hl, hz⟩ := I.list hs
  obtain ⟨u, rfl, ru⟩ := vals1 r
  obtain rfl : u = Value.ref a := ru
  obtain ⟨e1, e2⟩ := refs_back rv fun x m => by
    obtain ⟨t, e, _⟩ := hx x m
    exact ⟨t, e⟩
  refine SrtO.sorted_pairsO (k := fun u => k (backV u)) hl.isList (by rw [← rv.length]; exact hz) (fun v hv => ?_) fun h' d out h1 h2 kp hd hn => ?_
  · obtain ⟨t, rfl⟩ := e2 v hv
    have hm : V.ref t ∈ xs := by rw [e1]; exact List.mem_map.mpr ⟨_, hv, rfl⟩
    obtain ⟨t', e, ht⟩ := hx _ hm
    cases e
    obtain ⟨its2, r2, ⟨o, ho, hc, n, hd⟩, _⟩ := I.tuple ht
    obtain ⟨u1, u2, rfl, ri, rj⟩ := vals2 r2
    obtain ⟨t1, rfl⟩ := ri
    obtain ⟨t2, rfl⟩ := rj
    exact ⟨t, o, t1, t2, n, rfl, ho, hc, hd⟩
  · have h3 : ∀ u ∈ out, ∃ a, u = Value.ref a := fun u hu => e2 u (h2.perm.mem_iff.mp hu)
    obtain ⟨n, hn⟩ := hn
    have hb : SrtO.Stb (ltP k) (out.map backV) xs := by
      rw [e1]
      exact SrtO.Stb.map (ltP_swo k) backV h2
    refine ⟨.ref d, upd H d (.lst (out.map backV)), I.laid (t' := s.toks) kp hd ⟨?_, out, n, vals_back h3, hn⟩, rfl, q _ d (SrtO.srtd_map h1) hb (I.hok.fresh hd)⟩
    rw [hb.len]
    exact hz
def RdP (K : PySem.W.Frag) (H : Hp) (v : V) (p : Int × Int) : Prop := ∃ t, v = V.ref t ∧ SqT K H t [.int p.1, .int p.2]
theorem RdP.inj {pins : List (Addr × Obj)} {σ : St} {H : Hp} {s : Shared} (I : Inv X pins σ H s) {v : V} {p q : Int × Int} (h : RdP X.K H v p) (k : RdP X.K H v q) : p = q := by
  obtain ⟨t, rfl, h⟩ := h
  obtain ⟨t', e, k⟩ := k
  cases e
  have := I.tuple_inj h k
  injection this with e1 e2
  injection e2 with e2 _
  injection e1 with e1
  injection e2 with e2
  exact Prod.ext e1 e2
open Classical in
noncomputable def pairOf (K : PySem.W.Frag) (H : Hp) (v : V) : Int × Int := if h : ∃ p, RdP K H v p then choose h else (0, 0)
theorem pairOf_eq {pins : List (Addr × Obj)} {σ : St} {H : Hp} {s : Shared} (I : Inv X pins σ H s) {v : V} {p : Int × Int} (h : RdP X.K H v p) : pairOf X.K H v = p := by
  have hx : ∃ p, RdP X.K H v p := ⟨p, h⟩
  unfold pairOf
  rw [dif_pos hx]
  exact RdP.inj I (Classical.choose_spec hx) h
theorem paired_map {α β : Type} {R : α → β → Prop} {f : α → β} (h : ∀ a b, R a b → f a = b) : ∀ {as : List α} {bs : List β}, Paired R as bs → bs = as.map f
  | _, _, .nil => rfl
  | _, _, .cons r t => by rw [List.map_cons, h _ _ r, ← paired_map h t]
theorem paired_mem {α β : Type} {R : α → β → Prop} : ∀ {as : List α} {bs : List β}, Paired R as bs → ∀ a ∈ as, ∃ b, R a b
  | _, _, .nil => fun a h => nomatch h
  | _, _, .cons r t => fun a h => by
    rcases List.mem_cons.mp h with rfl | h
    · exact ⟨_, r⟩
    · exact paired_mem t a h
theorem paired_of {α β : Type} {R : α → β → Prop} {f : α → β} : ∀ {as : List α}, (∀ a ∈ as, R a (f a)) → Paired R as (as.map f)
  | [], _ => .nil
  | a :: as, h => .cons (h a List.mem_cons_self) (paired_of fun b hb => h b (List.mem_cons_of_mem _ hb))
theorem cr_sortedQ : CallR X (.builtin "sorted") (fun vs H Q => ∃ (a : Addr) (xs : List V) (ps : List (Int × Int)), vs = [V.ref a] ∧ SqL X.K H a xs ∧ Paired (RdP X.K H) xs ps ∧
    ∀ ys p, Paired (RdP X.K H) ys (sortPr ps) → H p = none → Q (.ref p) (upd H p (.lst ys))) := by
  intro pins s σ H vs us Q I r h
  obtain ⟨a, xs, ps, rfl, hs, hx, q⟩ := h
  have k1 : ∀ x ∈ xs, RdP X.K H x (pairOf X.K H x) := fun x m => by
    obtain ⟨b, hb⟩ := paired_mem hx x m
    rw [pairOf_eq I hb]
    exact hb
  have e : ps = xs.map (pairOf X.K H) := paired_map (fun x b h => pairOf_eq I h) hx
  refine cr_sortedPX pins s σ H _ us Q I r ⟨a, xs, pairOf X.K H, rfl, hs, k1, fun ys p h1 h2 hp => q ys p ?_ hp⟩
  have k2 : Paired (RdP X.K H) ys (ys.map (pairOf X.K H)) := paired_of fun y hy => k1 y (h2.perm.mem_iff.mp hy)
  have e2 : ys.map (pairOf X.K H) = sortPr ps := by
    refine perm_sorted_eq (fun _ _ => lePr_anti) ((h2.perm.map _).trans (by rw [← e]; exact (sortPr_perm ps).symm)) ?_ (sortPr_sorted ps)
    refine List.pairwise_map.mpr (h1.imp fun {x y} h => ?_)
    have := SrtO.lexB_no.mp h
    unfold lePr
    omega
  rw [← e2]
  exact k2
theorem dts_pairs {K : PySem.W.Frag} {F : Rg} {H : Hp} : ∀ {ps : List (Int × Int)} {vs : List V}, Dts K F H (ps.map prD) vs → Paired (RdP K H) vs ps
  | [], _, h => by cases h; exact .nil
  | p :: ps, _, h => by
    rw [List.map_cons] at h
    cases h with
    | cons h t => exact .cons (pair_read h) (dts_pairs t)
theorem pairs_dts {K : PySem.W.Frag} {F : Rg} {H : Hp} : ∀ {ps : List (Int × Int)} {vs : List V}, Paired (RdP K H) vs ps → Dts K F H (ps.map prD) vs
  | _, _, .nil => .nil
  | p :: ps, _, .cons h t => by
    obtain ⟨a, rfl, h⟩ := h
    exact .cons (.tup h (.cons (.int _) (.cons (.int _) .nil))) (pairs_dts t)
theorem b1_sort : B1 X (.builtin "sorted") bSort := by
  refine ⟨_, (cr_sortedI (X := X)).or cr_sortedQ, fun F H a va w Q ha e q => ?_⟩
  cases a with
  | list xs =>
    have e : (match ints? xs with
      | some ns => some (W.fr (.list ((sortI ns).map .int)))
      | none => (prs? xs).map fun ps => W.fr (.list ((sortPr ps).map prD))) = some w := e
    obtain ⟨l, vs, rfl, h1, d1⟩ := ha
    split at e
    · rename_i ns e1
      cases e
      rw [ints?_some e1] at d1
      rw [d1.ints] at h1
      refine .inl ⟨l, ns, rfl, .inl h1, fun ns' p hp hs hn => ?_⟩
      have : ns' = sortI ns := perm_sorted_eq (fun a b (h : a ≤ b) k => Int.le_antisymm h k) (hp.trans (sortI_perm ns).symm) hs (sortI_sorted ns)
      rw [this]
      exact q _ _ (.lst hn (dts_ints _))
    · obtain ⟨ps, e1, rfl⟩ := Option.map_eq_some_iff.mp e
      rw [prs?_some e1] at d1
      exact .inr ⟨l, vs, ps, rfl, .inl h1, dts_pairs d1, fun ys p hp hn => q _ _ (.lst hn (pairs_dts hp))⟩
  | _ => cases e
end
end PD
set_option Elab.async false
set_option linter.all false
set_option maxRecDepth 100000
set_option maxHeartbeats 4000000
/-! PD20: max, min of a tuple. -/
namespace PD
set_option autoImplicit false
open PySem PySem.Spec L2
open PyProof.Rows hiding St

def bMaxA : D → Option W
  | .tuple xs => bMax (.list xs)
  | d => bMax d
def bMinA : D → Option W
  | .tuple xs => bMin (.list xs)
  | d => bMin d
section
variable {X : Cx}
theorem maxOf_int (n : Int) (ns : List Int) : PySem.W.maxOf n ns = imax n ns := by
  unfold PySem.W.maxOf imax
  congr 1
  funext a y
  by_cases h : a < y
  · rw [if_pos h, if_pos (show PySem.W.DatumOrd.lt a y = true from decide_eq_true h)]
  · rw [if_neg h, if_neg (show ¬ (PySem.W.DatumOrd.lt a y = true) from fun z => h (of_decide_eq_true z))]
theorem minOf_int (n : Int) (ns : List Int) : PySem.W.minOf n ns = imin n ns := by
  unfold PySem.W.minOf imin
  congr 1
  funext a y
  by_cases h : y < a
  · rw [if_pos h, if_pos (show PySem.W.DatumOrd.lt y a = true from decide_eq_true h)]
  · rw [if_neg h, if_neg (show ¬ (PySem.W.DatumOrd.lt y a = true) from fun z => h (of_decide_eq_true z))]
theorem call_max_tup (hc : X.calm = true) (hu : X.A.units + 1 + 64 < cLine) : CallR X (.builtin "max") (fun vs H Q => ∃ (a : Addr) (n : Int) (ns : List Int), vs = [V.ref a] ∧ SqT X.K H a ((n :: ns).map V.int) ∧ Q (.int (imax n ns)) H) := by
  intro pins s σ H vs us Q I r h
  obtain ⟨a, n, ns, rfl, hs, q⟩ := h
  obtain ⟨its, rv, pl, _⟩ := I.tuple hs
  obtain ⟨u, rfl, ru⟩ := vals1 r
  cases (show u = Value.ref a from ru)
  refine PySem.W.max_tuple_datum (α := Int) (I.ok.hd hc) (show s.heap.IsTuple a its.toArray from pl) (x := n) (xs := ns) (by simpa using PySem.W.HoldAll.of_ints (Vals.ints rv)) (by
    have : PySem.W.Datum.depth Int ≤ 64 := by decide
    omega) fun i v h' tk _ hv hk => ?_
  obtain ⟨t, rfl⟩ := PySem.W.int_of_holds hv
  rw [maxOf_int]
  exact ⟨.int _, H, I.kept (t' := tk) hk, ⟨t, rfl⟩, q⟩
theorem call_min_tup (hc : X.calm = true) (hu : X.A.units + 1 + 64 < cLine) : CallR X (.builtin "min") (fun vs H Q => ∃ (a : Addr) (n : Int) (ns : List Int), vs = [V.ref a] ∧ SqT X.K H a ((n :: ns).map V.int) ∧ Q (.int (imin n ns)) H) := by
  intro pins s σ H vs us Q I r h
  obtain ⟨a, n, ns, rfl, hs, q⟩ := h
  obtain ⟨its, rv, pl, _⟩ := I.tuple hs
  obtain ⟨u, rfl, ru⟩ := vals1 r
  cases (show u = Value.ref a from ru)
  refine PySem.W.min_tuple_datum (α := Int) (I.ok.hd hc) (show s.heap.IsTuple a its.toArray from pl) (x := n) (xs := ns) (by simpa using PySem.W.HoldAll.of_ints (Vals.ints rv)) (by
    have : PySem.W.Datum.depth Int ≤ 64 := by decide
    omega) fun i v h' tk _ hv hk => ?_
  obtain ⟨t, rfl⟩ := PySem.W.int_of_holds hv
  rw [minOf_int]
  exact ⟨.int _, H, I.kept (t' := tk) hk, ⟨t, rfl⟩, q⟩
theorem b1_maxA (hc : X.calm = true) (hu : X.A.units + 1 + 64 < cLine) : B1 X (.builtin "max") bMaxA := by
  obtain ⟨r, hr, hq⟩ := (b1_max (X := X) hc).ex
  refine ⟨_, hr.or (call_max_tup hc hu), fun F H a va w Q ha e q => ?_⟩
  cases a with
  | tuple xs =>
    have e : ((ints? xs).bind fun ns => match ns with
      | [] => none
      | n :: ns => some (W.sh (.int (imax n ns)))) = some w := e
    obtain ⟨ns, e1, e⟩ := Option.bind_eq_some_iff.mp e
    cases ns with
    | nil => cases e
    | cons n ns =>
      cases e
      obtain ⟨l, vs, rfl, h1, d1⟩ := ha.tup_inv
      rw [ints?_some e1] at d1
      rw [d1.ints] at h1
      exact .inr ⟨l, n, ns, rfl, h1, q _ _ (.val (.int _))⟩
  | _ => exact .inl (hq F H _ va w Q ha e q)
theorem b1_minA (hc : X.calm = true) (hu : X.A.units + 1 + 64 < cLine) : B1 X (.builtin "min") bMinA := by
  obtain ⟨r, hr, hq⟩ := (b1_min (X := X) hc).ex
  refine ⟨_, hr.or (call_min_tup hc hu), fun F H a va w Q ha e q => ?_⟩
  cases a with
  | tuple xs =>
    have e : ((ints? xs).bind fun ns => match ns with
      | [] => none
      | n :: ns => some (W.sh (.int (imin n ns)))) = some w := e
    obtain ⟨ns, e1, e⟩ := Option.bind_eq_some_iff.mp e
    cases ns with
    | nil => cases e
    | cons n ns =>
      cases e
      obtain ⟨l, vs, rfl, h1, d1⟩ := ha.tup_inv
      rw [ints?_some e1] at d1
      rw [d1.ints] at h1
      exact .inr ⟨l, n, ns, rfl, h1, q _ _ (.val (.int _))⟩
  | _ => exact .inl (hq F H _ va w Q ha e q)
end
end PD
set_option Elab.async false
set_option linter.all false
set_option maxRecDepth 100000
set_option maxHeartbeats 4000000
/-! PD21: comprehensions with two fors. -/
namespace PD
set_option autoImplicit false
open PySem PySem.Spec L2
open PyProof.Rows hiding St

def lc2Go (tg : DG) (ft : DT) (fi1 : DI) (tg1 : DG) (ft1 : DT) (fe : DE) (vs vs1 : List Nat) : List D → List D → En → Option (List D × En)
  | [], acc, ρ => some (acc, ρ)
  | d :: ds, acc, ρ => (tg d ρ).bind fun ρ1 => (ft ρ1).bind fun x => if x.1 = true then
      (fi1 x.2).bind fun y => (y.2.wipe vs1).bind fun ρw => (lcGo tg1 ft1 fe vs1 y.1 acc ρw).bind fun z => (z.2.wipe vs).bind fun ρ5 => lc2Go tg ft fi1 tg1 ft1 fe vs vs1 ds z.1 ρ5
    else (x.2.wipe vs).bind fun ρ5 => lc2Go tg ft fi1 tg1 ft1 fe vs vs1 ds acc ρ5
def dLc2 (fi : DI) (tg : DG) (ft : DT) (fi1 : DI) (tg1 : DG) (ft1 : DT) (fe : DE) (vs vs1 : List Nat) : DE := fun ρ => (fi ρ).bind fun x => (x.2.wipe vs).bind fun ρw => (lc2Go tg ft fi1 tg1 ft1 fe vs vs1 x.1 [] ρw).bind fun y =>
  if y.1.length ≤ 16777216 then some (.fr (.list y.1), { y.2 with sl := restoreS x.2.sl y.2.sl vs }) else none
theorem lcGo_len {tg : DG} {ft : DT} {fe : DE} {vs : List Nat} : ∀ {ds acc : List D} {ρ : En} {z : List D × En}, lcGo tg ft fe vs ds acc ρ = some z → acc.length ≤ z.1.length
  | [], acc, ρ, z, h => by cases h; exact Nat.le_refl _
  | d :: ds, acc, ρ, z, h => by
    obtain ⟨ρ1, _, h⟩ := Option.bind_eq_some_iff.mp h
    obtain ⟨x, _, h⟩ := Option.bind_eq_some_iff.mp h
    split at h
    · obtain ⟨y, _, h⟩ := Option.bind_eq_some_iff.mp h
      obtain ⟨u, _, h⟩ := Option.bind_eq_some_iff.mp h
      obtain ⟨ρ5, _, h⟩ := Option.bind_eq_some_iff.mp h
      have := lcGo_len h
      rw [List.length_append, List.length_singleton] at this
      omega
    · obtain ⟨ρ5, _, h⟩ := Option.bind_eq_some_iff.mp h
      exact lcGo_len h
theorem lc2Go_len {tg : DG} {ft : DT} {fi1 : DI} {tg1 : DG} {ft1 : DT} {fe : DE} {vs vs1 : List Nat} : ∀ {ds acc : List D} {ρ : En} {z : List D × En}, lc2Go tg ft fi1 tg1 ft1 fe vs vs1 ds acc ρ = some z → acc.length ≤ z.1.length
  | [], acc, ρ, z, h => by cases h; exact Nat.le_refl _
  | d :: ds, acc, ρ, z, h => by
    obtain ⟨ρ1, _, h⟩ := Option.bind_eq_some_iff.mp h
    obtain ⟨x, _, h⟩ := Option.bind_eq_some_iff.mp h
    split at h
    · obtain ⟨y, _, h⟩ := Option.bind_eq_some_iff.mp h
      obtain ⟨ρw, _, h⟩ := Option.bind_eq_some_iff.mp h
      obtain ⟨u, e, h⟩ := Option.bind_eq_some_iff.mp h
      obtain ⟨ρ5, _, h⟩ := Option.bind_eq_some_iff.mp h
      have a := lcGo_len e
      have b := lc2Go_len h
      omega
    · obtain ⟨ρ5, _, h⟩ := Option.bind_eq_some_iff.mp h
      exact lc2Go_len h

/-- within a comprehension: the list at B grows, all else as expressions leave it -/
structure LcI (g : G) (F1 : Rg) (ρw : En) (σw : St) (H1 : Hp) (B : Addr) (vs : List Nat) (sl1 : List (Option Sl)) (F : Rg) (ρ : En) (σ : St) (H : Hp) (accD : List D) (accV : List V) : Prop where
  post : Post g F1 ρw σw H1 F ρ σ H
  hB : H B = some (.lst accV)
  hd : Dts g.K F H accD accV
  nF : ¬ F B
  shr : ∀ b, OwnAt ρ σ b → OwnAt ρw σw b
  pres : ∀ (i : Nat) (s : Sl), i ∉ vs → sl1[i]? = some (some s) → ∃ s', ρ.sl[i]? = some (some s')
section
variable {g : G} {F1 F F' : Rg} {ρw ρ ρ' : En} {σw σ σ' : St} {H1 H H' : Hp} {B : Addr} {vs ws is : List Nat} {sl1 : List (Option Sl)} {accD : List D} {accV : List V}
theorem LcI.nO (h : LcI g F1 ρw σw H1 B vs sl1 F ρ σ H accD accV) (rw1 : Rel g F1 ρw σw H1) (hn : H1 B = none) : ¬ OwnAt ρ σ B := fun z => rw1.notOwnN hn (h.shr B z)
theorem LcI.tpo (h : LcI g F1 ρw σw H1 B vs sl1 F ρ σ H accD accV) (rw1 : Rel g F1 ρw σw H1) (hn : H1 B = none) (p : TPo g F ρ σ H F' ρ' H') : LcI g F1 ρw σw H1 B vs sl1 F' ρ' σ H' accD accV :=
  ⟨h.post.trans rw1 p.post, p.post.kept B _ h.hB (h.nO rw1 hn), h.hd.keeps (p.post.keeps h.post.rel), fun z => by
    rcases p.post.newF B z with y | y | y
    · exact h.nF y
    · rw [h.hB] at y; cases y
    · exact h.nO rw1 hn y, fun b z => h.shr b (p.shr b z), fun i s hi e => by
    obtain ⟨s1, k1⟩ := h.pres i s hi e
    exact p.pres i s1 k1⟩
theorem LcI.tg (h : LcI g F1 ρw σw H1 B vs sl1 F ρ σ H accD accV) (hs : ∀ i ∈ is, i ∈ vs) (r4 : Rel g F ρ' σ' H) (o4 : ∀ b, OwnAt ρ' σ' b → OwnAt ρ σ b) (z4 : Pres is ρ ρ') : LcI g F1 ρw σw H1 B vs sl1 F ρ' σ' H accD accV :=
  ⟨⟨r4, h.post.mono, h.post.kept, h.post.there, h.post.newF, fun b z => h.post.newO b (o4 b z)⟩, h.hB, h.hd, h.nF, fun b z => h.shr b (o4 b z), fun i s hi e => by
    obtain ⟨s1, k1⟩ := h.pres i s hi e
    exact z4 i s1 (fun z => hi (hs i z)) k1⟩
theorem LcI.wipe (h : LcI g F1 ρw σw H1 B vs sl1 F ρ σ H accD accV) (hs : ∀ i ∈ ws, i ∈ vs) (hl : σ'.length = σ.length) (hσ : ∀ i, i ∉ ws → σ'[i]? = σ[i]?) (e : ρ.wipe ws = some ρ') : LcI g F1 ρw σw H1 B vs sl1 F ρ' σ' H accD accV := by
  obtain ⟨hc, rfl⟩ := En.wipe_some e
  exact ⟨⟨h.post.rel.wiped hl hσ hc, h.post.mono, h.post.kept, h.post.there, h.post.newF, fun b z => h.post.newO b (ownAt_wiped hσ z)⟩, h.hB, h.hd, h.nF, fun b z => h.shr b (ownAt_wiped hσ z), fun i s hi e => by
    obtain ⟨s', k⟩ := h.pres i s hi e
    exact ⟨s', by show (wipeS ρ.sl _)[i]? = _; rw [wipeS_out (fun z => hi (hs i z))]; exact k⟩⟩
theorem LcI.poke (h : LcI g F1 ρw σw H1 B vs sl1 F ρ σ H accD accV) (rw1 : Rel g F1 ρw σw H1) (hn : H1 B = none) (h0 : g.H0 B = none) {d : D} {v : V} (hv : Dt g.K F H d v) :
    LcI g F1 ρw σw H1 B vs sl1 F ρ σ (upd H B (.lst (accV ++ [v]))) (accD ++ [d]) (accV ++ [v]) :=
  ⟨h.post.poke hn h.nF (h.nO rw1 hn) h0 h.hB, upd_same, (h.hd.append (.cons hv .nil)).keeps (poke_keeps h.nF h.hB), h.nF, h.shr, h.pres⟩
end
section
variable {fi fi1 : DI} {fg fg1 : DG} {ft ft1 : DT} {fe : DE} {is is1 vs1 : List Nat} {own : List (Str × Nat)}
theorem wipe_two {σ σ2 σ3 : St} {vs vs1 : List Nat} (hv : ∀ i ∈ vs1, i ∈ vs) (h : wipe σ2 vs = wipe σ vs) : (∀ i, i ∉ vs → (wipe σ vs)[i]? = (wipe σ2 vs1)[i]?) ∧ (wipe σ vs).length = (wipe σ2 vs1).length := by
  refine ⟨fun i hi => ?_, ?_⟩
  · rw [← h, wipe_get hi, wipe_get fun z => hi (hv i z)]
  · rw [← h, wipe_length, wipe_length]
theorem wipe_eq_get {σ σ' : St} {vs : List Nat} (h : wipe σ' vs = wipe σ vs) : (∀ i, i ∉ vs → (wipe σ vs)[i]? = σ'[i]?) ∧ (wipe σ vs).length = σ'.length :=
  ⟨fun i hi => by rw [← h, wipe_get hi], by rw [← h, wipe_length]⟩
theorem lc2_ok {g : G} (hsub : ∀ i ∈ is, i ∈ own.map (·.2)) (hsub1 : ∀ i ∈ is1, i ∈ vs1) (hv : ∀ i ∈ vs1, i ∈ own.map (·.2)) {σ : St} {H : Hp} {Q : VK} (t : tE g (dLc2 fi fg ft fi1 fg1 ft1 fe (own.map (·.2)) vs1) σ H Q) :
    tLc2 (tI g fi) (tG g fg is) (tT g ft) (tI g fi1) (tG g fg1 is1) (tT g ft1) (tE g fe) (own.map (·.2)) vs1 σ H Q := by
  obtain ⟨F, ρ, r, w, ρ', e, q⟩ := t
  obtain ⟨⟨ds, ρ1⟩, e1, e⟩ := Option.bind_eq_some_iff.mp e
  obtain ⟨ρw, ew, e⟩ := Option.bind_eq_some_iff.mp e
  obtain ⟨⟨acc, ρ2⟩, e2, e⟩ := Option.bind_eq_some_iff.mp e
  split at e
  · rename_i hlen
    cases e
    obtain ⟨hc, rfl⟩ := En.wipe_some ew
    refine ⟨F, ρ, r, ds, ρ1, e1, fun J H1 F1 p1 ok B hB => ?_⟩
    have r1 := p1.post.rel
    have hσ : ∀ (i : Nat), i ∉ own.map (·.2) → (wipe σ (own.map (·.2)))[i]? = σ[i]? := fun i h => wipe_get h
    have rw1 : Rel g F1 { ρ1 with sl := wipeS ρ1.sl (own.map (·.2)) } (wipe σ (own.map (·.2))) H1 := r1.wiped (wipe_length _ _) hσ hc
    obtain ⟨Gd, Y, wk, hG, hY⟩ := ok
    have h0 : g.H0 B = none := r1.fresh0 hB
    refine ⟨fun i m H2 => m + i = ds.length ∧ ∃ F2 ρk accD accV, LcI g F1 { ρ1 with sl := wipeS ρ1.sl (own.map (·.2)) } (wipe σ (own.map (·.2))) H1 B (own.map (·.2)) ρ1.sl F2 ρk (wipe σ (own.map (·.2))) H2 accD accV ∧
      lc2Go fg ft fi1 fg1 ft1 fe (own.map (·.2)) vs1 (ds.drop i) accD ρk = some (acc, ρ2), ⟨ds.length, rfl, F1, _, [], [], ⟨(TPo.keptAll rw1 (upd_kept hB)).post, upd_same, .nil, rw1.notF hB, fun _ h => h, fun i s hi e => ⟨s, by show (wipeS ρ1.sl _)[i]? = _; rw [wipeS_out hi]; exact e⟩⟩, by rw [List.drop_zero]; exact e2⟩, ?_⟩
    rintro i m H2 ⟨hm, F2, ρk, accD, accV, L, e3⟩
    have r2 := L.post.rel
    have gd := hG F2 H2 (L.post.keeps rw1)
    by_cases hi : i < ds.length
    · refine .inr ⟨wk.goes i H2 hi gd, fun H3 => ∃ F3 ρ3 accD accV, LcI g F1 { ρ1 with sl := wipeS ρ1.sl (own.map (·.2)) } (wipe σ (own.map (·.2))) H1 B (own.map (·.2)) ρ1.sl F3 ρ3 (wipe σ (own.map (·.2))) H3 accD accV ∧
        lc2Go fg ft fi1 fg1 ft1 fe (own.map (·.2)) vs1 (ds.drop (i + 1)) accD ρ3 = some (acc, ρ2), fun H3 z => ?_, fun x H3 y => ?_⟩
      · obtain ⟨F3, ρ3, a1, a2, z1, z2⟩ := z
        exact ⟨m - 1, by omega, by omega, F3, ρ3, a1, a2, z1, z2⟩
      have ed : ds.drop i = ds[i] :: ds.drop (i + 1) := List.drop_eq_getElem_cons hi
      rw [ed] at e3
      obtain ⟨ρ3, e4, e3⟩ := Option.bind_eq_some_iff.mp e3
      obtain ⟨⟨b, ρ4⟩, e5, e3⟩ := Option.bind_eq_some_iff.mp e3
      obtain ⟨tn, dn⟩ := (hY i ds[i] F2 H2 x H3 (List.getElem?_eq_getElem hi) (L.post.keeps rw1) (wk.yields i H2 x H3 hi gd y)).tpo r2
      refine ⟨F2, ρk, ds[i], tn.post.rel, dn, ρ3, e4, fun σ4 r4 o4 y4 z4 => ?_⟩
      have L3 := (L.tpo rw1 hB tn).tg hsub r4 o4 z4
      have w4 : wipe σ4 (own.map (·.2)) = wipe σ (own.map (·.2)) := (y4 _ hsub).trans (wipe_idem _ _)
      refine ⟨w4, F2, ρ3, r4, b, ρ4, e5, fun H5 F5 p5 => ?_⟩
      have L5 := L3.tpo rw1 hB p5
      cases b with
      | false =>
        rw [if_neg (show ¬ (false = true) from Bool.false_ne_true)] at e3
        show (if false = true then _ else _)
        rw [if_neg (show ¬ (false = true) from Bool.false_ne_true)]
        obtain ⟨ρ6, e6, e7⟩ := Option.bind_eq_some_iff.mp e3
        obtain ⟨g1, g2⟩ := wipe_eq_get w4
        exact ⟨F5, ρ6, accD, accV, L5.wipe (fun _ h => h) g2 g1 e6, e7⟩
      | true =>
        rw [if_pos rfl] at e3
        show (if true = true then _ else _)
        rw [if_pos rfl]
        obtain ⟨⟨ds1, ρ5⟩, e6, e3⟩ := Option.bind_eq_some_iff.mp e3
        obtain ⟨ρ6, e7, e3⟩ := Option.bind_eq_some_iff.mp e3
        obtain ⟨⟨acc1, ρ7⟩, e8, e3⟩ := Option.bind_eq_some_iff.mp e3
        obtain ⟨ρ8, e9, e10⟩ := Option.bind_eq_some_iff.mp e3
        have hl1 : acc1.length ≤ acc.length := lc2Go_len e10
        refine ⟨F5, ρ4, p5.post.rel, ds1, ρ5, e6, fun J1 H6 F6 p6 ok1 => ?_⟩
        have L6 := L5.tpo rw1 hB p6
        have L7 := L6.wipe hv (σ' := wipe σ4 vs1) (wipe_length _ _) (fun i hi => wipe_get hi) e7
        obtain ⟨Gd1, Y1, wk1, hG1, hY1⟩ := ok1
        have r6 := p6.post.rel
        have K6 : ∀ {F7 : Rg} {ρ' : En} {H7 : Hp} {aD aV}, LcI g F1 { ρ1 with sl := wipeS ρ1.sl (own.map (·.2)) } (wipe σ (own.map (·.2))) H1 B (own.map (·.2)) ρ1.sl F7 ρ' (wipe σ4 vs1) H7 aD aV → Post g F6 ρ6 (wipe σ4 vs1) H6 F7 ρ' (wipe σ4 vs1) H7 → Keeps F6 F7 H6 H7 := fun _ p => p.keeps L7.post.rel
        refine ⟨fun j k H7 => k + j = ds1.length ∧ ∃ F7 ρ' aD aV, LcI g F1 { ρ1 with sl := wipeS ρ1.sl (own.map (·.2)) } (wipe σ (own.map (·.2))) H1 B (own.map (·.2)) ρ1.sl F7 ρ' (wipe σ4 vs1) H7 aD aV ∧ Keeps F6 F7 H6 H7 ∧ lcGo fg1 ft1 fe vs1 (ds1.drop j) aD ρ' = some (acc1, ρ7),
          ⟨ds1.length, rfl, F6, ρ6, accD, accV, L7, ⟨fun _ h => h, fun _ _ h => h, fun _ _ _ h => h, fun _ _ _ h => h⟩, by rw [List.drop_zero]; exact e8⟩, ?_⟩
        rintro j k H7 ⟨hk, F7, ρ9, aD, aV, M, K7, f3⟩
        have gd1 := hG1 F7 H7 K7
        by_cases hj : j < ds1.length
        · refine .inr ⟨wk1.goes j H7 hj gd1, fun H8 => ∃ F8 ρ' aD aV, LcI g F1 { ρ1 with sl := wipeS ρ1.sl (own.map (·.2)) } (wipe σ (own.map (·.2))) H1 B (own.map (·.2)) ρ1.sl F8 ρ' (wipe σ4 vs1) H8 aD aV ∧ Keeps F6 F8 H6 H8 ∧ lcGo fg1 ft1 fe vs1 (ds1.drop (j + 1)) aD ρ' = some (acc1, ρ7), fun H8 z => ?_, fun x H8 y => ?_⟩
          · obtain ⟨F8, ρ10, a1, a2, z1, z2, z3⟩ := z
            exact ⟨k - 1, by omega, by omega, F8, ρ10, a1, a2, z1, z2, z3⟩
          have ed1 : ds1.drop j = ds1[j] :: ds1.drop (j + 1) := List.drop_eq_getElem_cons hj
          rw [ed1] at f3
          obtain ⟨ρa, f4, f3⟩ := Option.bind_eq_some_iff.mp f3
          obtain ⟨⟨b1, ρb⟩, f5, f3⟩ := Option.bind_eq_some_iff.mp f3
          have r7 := M.post.rel
          obtain ⟨tn1, dn1⟩ := (hY1 j ds1[j] F7 H7 x H8 (List.getElem?_eq_getElem hj) K7 (wk1.yields j H7 x H8 hj gd1 y)).tpo r7
          refine ⟨F7, ρ9, ds1[j], tn1.post.rel, dn1, ρa, f4, fun σ5 s4 o5 y5 z5 => ?_⟩
          have M3 := (M.tpo rw1 hB tn1).tg (fun i h => hv i (hsub1 i h)) s4 o5 z5
          have w5 : wipe σ5 vs1 = wipe σ4 vs1 := (y5 _ hsub1).trans (wipe_idem _ _)
          have K8 := K7.trans (tn1.post.keeps r7)
          refine ⟨w5, F7, ρa, s4, b1, ρb, f5, fun H9 F9 p9 => ?_⟩
          have M5 := M3.tpo rw1 hB p9
          have K9 := K8.trans (p9.post.keeps s4)
          obtain ⟨u1, u2⟩ := wipe_eq_get w5
          cases b1 with
          | false =>
            rw [if_neg (show ¬ (false = true) from Bool.false_ne_true)] at f3
            show (if false = true then _ else _)
            rw [if_neg (show ¬ (false = true) from Bool.false_ne_true)]
            obtain ⟨ρc, f6, f7⟩ := Option.bind_eq_some_iff.mp f3
            exact ⟨F9, ρc, aD, aV, M5.wipe hv u2 u1 f6, K9, f7⟩
          | true =>
            rw [if_pos rfl] at f3
            show (if true = true then _ else _)
            rw [if_pos rfl]
            obtain ⟨⟨w', ρc⟩, f6, f3⟩ := Option.bind_eq_some_iff.mp f3
            obtain ⟨⟨d', ρd⟩, f7, f3⟩ := Option.bind_eq_some_iff.mp f3
            obtain ⟨ρe, f8, f9⟩ := Option.bind_eq_some_iff.mp f3
            refine ⟨F9, ρb, p9.post.rel, w', ρc, f6, fun v Ha Fa pa => ?_⟩
            obtain ⟨Fb, pb, db⟩ := pa.give f7
            have M6 := M5.tpo rw1 hB pb
            have Kb := K9.trans (pb.post.keeps M5.post.rel)
            have hll := M6.hd.length
            have l9 := lcGo_len f9
            rw [List.length_append, List.length_singleton] at l9
            simp only at l9 hlen
            have pk := poke_keeps (F := Fb) (ys := aV ++ [v]) M6.nF M6.hB
            refine ⟨aV, M6.hB, by rw [sizeLine_eq]; omega, Fb, ρe, _, _, (M6.poke rw1 hB h0 db).wipe hv u2 u1 f8, Kb.trans pk, f9⟩
        · have hje : j = ds1.length := by omega
          subst hje
          rw [List.drop_length] at f3
          cases f3
          obtain ⟨t1, t2⟩ := wipe_two (σ3 := σ) hv w4
          exact .inl ⟨wk1.stops H7 gd1, F7, ρ8, acc1, aV, M.wipe (fun _ h => h) t2 t1 e9, e10⟩
    · have hie : i = ds.length := by omega
      subst hie
      rw [List.drop_length] at e3
      cases e3
      refine .inl ⟨wk.stops H2 gd, q _ H2 F2 ⟨p1.trans r (block_end r1 hc L.post (r2.cup_eq r1) L.shr L.pres), ⟨B, rfl, .inl ⟨_, _, rfl, L.hB, L.hd⟩, L.nF, fun z => ?_, h0⟩, fun a h => ?_⟩⟩
      · exact r1.notOwnN hB ((block_end r1 hc L.post (r2.cup_eq r1) L.shr L.pres).shr B z)
      · obtain ⟨_, h⟩ := h
        cases h
        cases z : H B with
        | none => rfl
        | some u => exact absurd hB (p1.post.there B (by rw [z]; exact fun y => nomatch y))
  · cases e
end
section
variable {X : Cx} {tg iter tg1 iter1 elt : Expr} {ifs ifs1 : List Expr} {scope : Scope} {pos : Pos} {own : List (Str × Nat)} {fi fi1 : DI} {fg fg1 : DG} {ft ft1 : DT} {fe : DE} {is is1 vs1 : List Nat}
theorem ped_lc2 (hc : X.calm = true) (hN : X.N.Nodup) (hi : PID X tg iter fi) (ok : BlkOk X.N X.env.scope scope own)
    (hg' : ∀ (s : Shared) (H : Hp) (C : Addr) (cl : List (Str × Addr)) (fp : List Addr), PGD (X.blk s H scope (compEnvC scope cl C X.env) fp) tg fg is) (ht : ∀ (s : Shared) (H : Hp) (C : Addr) (cl : List (Str × Addr)) (fp : List Addr), PTsD (X.blk s H scope (compEnvC scope cl C X.env) fp) ifs ft)
    (hi1 : ∀ (s : Shared) (H : Hp) (C : Addr) (cl : List (Str × Addr)) (fp : List Addr), PID (X.blk s H scope (compEnvC scope cl C X.env) fp) tg1 iter1 fi1)
    (hg1 : ∀ (s : Shared) (H : Hp) (C : Addr) (cl : List (Str × Addr)) (fp : List Addr), PGD (X.blk s H scope (compEnvC scope cl C X.env) fp) tg1 fg1 is1) (ht1 : ∀ (s : Shared) (H : Hp) (C : Addr) (cl : List (Str × Addr)) (fp : List Addr), PTsD (X.blk s H scope (compEnvC scope cl C X.env) fp) ifs1 ft1)
    (he : ∀ (s : Shared) (H : Hp) (C : Addr) (cl : List (Str × Addr)) (fp : List Addr), PED (X.blk s H scope (compEnvC scope cl C X.env) fp) elt fe) (vs1 : List Nat) (hsub : ∀ i ∈ is, i ∈ own.map (·.2) := by decide) (hsub1 : ∀ i ∈ is1, i ∈ vs1 := by decide) (hv : ∀ i ∈ vs1, i ∈ own.map (·.2) := by decide)
    (hs : ∀ x, foldedSetIterable iter X.env x = pure x := by intro _; rfl) (hs1 : ∀ env x, foldedSetIterable iter1 env x = pure x := by intro _ _; rfl) :
    PED X (.ListComp elt [⟨tg, iter, ifs, 0⟩, ⟨tg1, iter1, ifs1, 0⟩] scope pos) (dLc2 fi fg ft fi1 fg1 ft1 fe (own.map (·.2)) vs1) := fun g hg =>
  (pe_lc2 hc hN (hi g hg) ok hv (fun s H C cl fp => hg' s H C cl fp g hg) (fun s H C cl fp => ht s H C cl fp g hg) (fun s H C cl fp => hi1 s H C cl fp g hg) (fun s H C cl fp => hg1 s H C cl fp g hg) (fun s H C cl fp => ht1 s H C cl fp g hg) (fun s H C cl fp => he s H C cl fp g hg) hs hs1).wk fun σ H Q t => lc2_ok hsub hsub1 hv t
theorem psd_setLc2 {i : Nat} {y : Str} {py spos : Pos} (hc : X.calm = true) (hN : X.N.Nodup) (hy : X.N[i]? = some y) (hyl : X.env.scope.names.lookup y = some .local) (hsw : swapsWith (.ListComp elt [⟨tg, iter, ifs, 0⟩, ⟨tg1, iter1, ifs1, 0⟩] scope pos) (some (.Name y py)) spos.line X.env = pure true)
    (hi : PID X tg iter fi) (ok : BlkOk X.N X.env.scope scope own)
    (hg' : ∀ (s : Shared) (H : Hp) (C : Addr) (cl : List (Str × Addr)) (fp : List Addr), PGD (X.blk s H scope (compEnvC scope cl C X.env) fp) tg fg is) (ht : ∀ (s : Shared) (H : Hp) (C : Addr) (cl : List (Str × Addr)) (fp : List Addr), PTsD (X.blk s H scope (compEnvC scope cl C X.env) fp) ifs ft)
    (hi1 : ∀ (s : Shared) (H : Hp) (C : Addr) (cl : List (Str × Addr)) (fp : List Addr), PID (X.blk s H scope (compEnvC scope cl C X.env) fp) tg1 iter1 fi1)
    (hg1 : ∀ (s : Shared) (H : Hp) (C : Addr) (cl : List (Str × Addr)) (fp : List Addr), PGD (X.blk s H scope (compEnvC scope cl C X.env) fp) tg1 fg1 is1) (ht1 : ∀ (s : Shared) (H : Hp) (C : Addr) (cl : List (Str × Addr)) (fp : List Addr), PTsD (X.blk s H scope (compEnvC scope cl C X.env) fp) ifs1 ft1)
    (he : ∀ (s : Shared) (H : Hp) (C : Addr) (cl : List (Str × Addr)) (fp : List Addr), PED (X.blk s H scope (compEnvC scope cl C X.env) fp) elt fe) (vs1 : List Nat) (hsub : ∀ i ∈ is, i ∈ own.map (·.2) := by decide) (hsub1 : ∀ i ∈ is1, i ∈ vs1 := by decide) (hv : ∀ i ∈ vs1, i ∈ own.map (·.2) := by decide)
    (hs : ∀ x, foldedSetIterable iter X.env x = pure x := by intro _; rfl) (hs1 : ∀ env x, foldedSetIterable iter1 env x = pure x := by intro _ _; rfl) :
    PSD X (.Assign [.Name y py] (.ListComp elt [⟨tg, iter, ifs, 0⟩, ⟨tg1, iter1, ifs1, 0⟩] scope pos) spos) (dSet i (dLc2 fi fg ft fi1 fg1 ft1 fe (own.map (·.2)) vs1)) :=
  psd_of_set (te := fun g => tE g (dLc2 fi fg ft fi1 fg1 ft1 fe (own.map fun (x : Str × Nat) => x.2) vs1)) (fun g hg => (ps_setLc2 hc hN hy hyl hsw (hi g hg) ok hv (fun s H C cl fp => hg' s H C cl fp g hg) (fun s H C cl fp => ht s H C cl fp g hg) (fun s H C cl fp => hi1 s H C cl fp g hg) (fun s H C cl fp => hg1 s H C cl fp g hg) (fun s H C cl fp => ht1 s H C cl fp g hg) (fun s H C cl fp => he s H C cl fp g hg) hs hs1).wk fun E σ H t => lc2_ok (own := own) hsub hsub1 hv (show tE g (dLc2 fi fg ft fi1 fg1 ft1 fe (own.map (·.2)) vs1) σ H (fun x H1 => gName i x σ H1 E.nx) from t)) fun _ => rfl
end
end PD
set_option Elab.async false
set_option linter.all false
set_option maxRecDepth 100000
set_option maxHeartbeats 4000000
/-! PD22: d = {}; for ..: key = ..; d.setdefault(key, []).append(..). -/
namespace PD
set_option autoImplicit false
open PySem PySem.Spec L2
open PyProof.Rows hiding St

/-! ### setdefault of a dict of tuples -/
section
variable {X : Cx} {pins : List (Addr × Obj)} {σ : St} {H : Hp} {s : Shared} {a b : Addr} {es : List TE3} {A : Around} {E : Value → Shared → Prop}
theorem t_setd {k : List Int} {r : Value} {Q : Value → Shared → Prop} (hu : A.units + 1 < cLine) (I : Inv X pins σ H s) (e : H a = some (tdO a es)) (hk : TKeys X.K H es) (eb : SqT X.K H b (k.map V.int)) (hl : es.length < sizeLine)
    (h1 : ∀ p, atKey es k = some p → ∀ s', Inv X pins σ H s' → Q p.2 s') (h2 : atKey es k = none → ∀ s', Inv X pins σ (upd H a (tdO a (storedH es k b r))) s' → Q r s') :
    wpAny (model X.prog X.w) A (call (.builtin "dict.setdefault") [.ref a, .ref b, r]) Q E s := by
  obtain ⟨z, hd, dd⟩ := td_of I (.inl e) hk
  refine PySem.call_setdefault_heap (hsz := z) (tupleKind_room_in1 hu) (tkey I eb) hd dd (fun p hp => h1 p hp _ (I.tok _)) fun hn h' dd' hs => h2 hn _ ?_
  have he : ∃ q, h'.get? a = some q := let ⟨q, _, _, hq, _⟩ := dd'; ⟨q, hq⟩
  refine d_write I (by rw [e]; exact True.intro) hs he (td_new ?_ hd dd')
  have := length_storedH es k b r
  omega
end
def tTSetd (K : PySem.W.Frag) (td ty tx : TE) : TE := fun σ H Q => td σ H fun x H1 => ∃ a, x = .ref a ∧ TIsD K H1 a ∧ ty σ H1 fun y H2 => tx σ H2 fun z H3 => ∃ es k b, H3 a = some (tdO a es) ∧ TKeys K H3 es ∧ y = .ref b ∧ SqT K H3 b (k.map V.int) ∧ es.length < sizeLine ∧
  (∀ p, atKey es k = some p → ∃ v, RelV v p.2 ∧ Q v H3) ∧ (atKey es k = none → ∀ r, RelV z r → Q z (upd H3 a (tdO a (storedH es k b r))))
section
variable {X : Cx} {o e f : Expr} {td ty tx : TE} {apos cpos : Pos}
theorem pe_tsetd (hu : X.A.units + 1 < cLine) (ho : PE X o td) (he : PE X e ty) (hf : PE X f tx) (m : M2 X o "setdefault" apos e f cpos) :
    PE X (.Call (.Attribute o "setdefault" apos) [e, f] [] cpos) (tTSetd X.K td ty tx) := by
  refine ⟨fun pins s σ H Q I h => ?_⟩
  refine wpAny_Call_method m.base m.few m.line PySem.F.plainAttrs_dict PySem.F.slot_dict_setdefault PySem.F.type_dict_setdefault (thn (ho.run pins s σ H _ I h) fun u s1 ⟨x, H1, I1, rx, a, ex, d, q1⟩ => ?_)
  subst ex
  obtain rfl : u = Value.ref a := rx
  obtain ⟨t1, t2, _⟩ := tisD_at I1 d
  refine ⟨t1, t2, ?_⟩
  rw [m.trees]
  refine Calls.callWith_builtin rfl (Calls.evalArgs_plain (Calls.spliced_cons (thn (he.run pins s1 σ H1 _ I1 q1) fun iv s2 ⟨y, H2, I2, ry, q2⟩ =>
    Calls.spliced_cons (thn (hf.run pins s2 σ H2 _ I2 q2) fun fv s3 ⟨z, H3, I3, rz, es, k, b, ea, hk, ey, eb, hl, q3, q4⟩ => Calls.spliced_nil ?_))))
  subst ey
  cases (show iv = Value.ref b from ry)
  refine t_setd hu I3 ea hk eb hl (fun p hp s4 I4 => ?_) fun hn s4 I4 => ⟨z, _, I4, rz, q4 hn fv rz⟩
  obtain ⟨v, rv, q⟩ := q3 p hp
  exact ⟨v, _, I4, rv, q⟩
end

/-! ### a dict of lists that nobody else sees -/
inductive Grp (K : PySem.W.Frag) (F : Rg) (H : Hp) : List (List Int × List D) → List TE3 → List Addr → Prop
  | nil : Grp K F H [] [] []
  | cons {k : List Int} {b l : Addr} {ds : List D} {vs : List V} {kl : List (List Int × List D)} {es : List TE3} {ls : List Addr} : SqT K H b (k.map V.int) → H l = some (.lst vs) → Dts K F H ds vs → Grp K F H kl es ls →
      Grp K F H ((k, ds) :: kl) ((k, b, .ref l) :: es) (l :: ls)
section
variable {K : PySem.W.Frag} {F F' : Rg} {H H' : Hp}
theorem Grp.keeps (k : Keeps F F' H H') : ∀ {kl : List (List Int × List D)} {es : List TE3} {ls : List Addr}, Grp K F H kl es ls → (∀ l ∈ ls, ∀ o, H l = some o → H' l = some o) → Grp K F' H' kl es ls
  | _, _, _, .nil, _ => .nil
  | _, _, _, .cons s h d t, e => .cons (k.sqt s) (e _ List.mem_cons_self _ h) (d.keeps k) (Grp.keeps k t fun l m => e l (List.mem_cons_of_mem _ m))
theorem Grp.keys : ∀ {kl : List (List Int × List D)} {es : List TE3} {ls : List Addr}, Grp K F H kl es ls → TKeys K H es
  | _, _, _, .nil => fun e h => nomatch h
  | _, _, _, .cons s h d t => fun e m => by
    rcases List.mem_cons.mp m with rfl | m
    · exact s
    · exact Grp.keys t e m
theorem Grp.length : ∀ {kl : List (List Int × List D)} {es : List TE3} {ls : List Addr}, Grp K F H kl es ls → kl.length = es.length
  | _, _, _, .nil => rfl
  | _, _, _, .cons _ _ _ t => by rw [List.length_cons, List.length_cons, Grp.length t]
theorem Grp.lists : ∀ {kl : List (List Int × List D)} {es : List TE3} {ls : List Addr}, Grp K F H kl es ls → ∀ l ∈ ls, ∃ vs, H l = some (.lst vs)
  | _, _, _, .nil => fun e h => nomatch h
  | _, _, _, .cons s h d t => fun e m => by
    rcases List.mem_cons.mp m with rfl | m
    · exact ⟨_, h⟩
    · exact Grp.lists t e m
/-- the list of a key -/
theorem Grp.at : ∀ {kl : List (List Int × List D)} {es : List TE3} {ls : List Addr} (k : List Int), Grp K F H kl es ls →
    (atKey es k = none ∧ (∀ x ∈ kl, x.1 ≠ k)) ∨ ∃ b l, atKey es k = some (b, .ref l) ∧ l ∈ ls ∧ (∃ x ∈ kl, x.1 = k)
  | _, _, _, k, .nil => .inl ⟨rfl, fun x h => nomatch h⟩
  | _, _, _, k, .cons (k := k') (b := b) (l := l) s h d t => by
    by_cases e : k' = k
    · exact .inr ⟨b, l, atKey_pos e, List.mem_cons_self, _, List.mem_cons_self, e⟩
    · rcases t.at k with ⟨z1, z2⟩ | ⟨b', l', z1, z2, x, z3, z4⟩
      · refine .inl ⟨by rw [atKey_neg e]; exact z1, fun x m => ?_⟩
        rcases List.mem_cons.mp m with rfl | m
        · exact e
        · exact z2 x m
      · exact .inr ⟨b', l', by rw [atKey_neg e]; exact z1, List.mem_cons_of_mem _ z2, x, List.mem_cons_of_mem _ z3, z4⟩
theorem Grp.append : ∀ {kl kl' : List (List Int × List D)} {es es' : List TE3} {ls ls' : List Addr}, Grp K F H kl es ls → Grp K F H kl' es' ls' → Grp K F H (kl ++ kl') (es ++ es') (ls ++ ls')
  | _, _, _, _, _, _, .nil, g => g
  | _, _, _, _, _, _, .cons s h d t, g => .cons s h d (Grp.append t g)
def grpEns (kl : List (List Int × List D)) (k : List Int) : List (List Int × List D) := if kl.any (fun x => decide (x.1 = k)) then kl else kl ++ [(k, [])]
def grpApp (kl : List (List Int × List D)) (k : List Int) (d : D) : List (List Int × List D) := kl.map fun x => if x.1 = k then (x.1, x.2 ++ [d]) else x
/-- an item more in the list of a key -/
theorem Grp.app {d : D} {v : V} {k : List Int} {b l : Addr} : ∀ {kl : List (List Int × List D)} {es : List TE3} {ls : List Addr}, Grp K F H kl es ls → ls.Nodup → (es.map (·.1)).Nodup → atKey es k = some (b, .ref l) → ¬ F l →
    ∃ vs ds, H l = some (.lst vs) ∧ (k, ds) ∈ kl ∧ ds.length = vs.length ∧ (Dt K F H d v → Grp K F (upd H l (.lst (vs ++ [v]))) (grpApp kl k d) es ls)
  | _, _, _, .nil, _, _, e, _ => by cases e
  | _, _, _, .cons (k := k') (b := b') (l := l') (ds := ds') (vs := vs') (kl := kl) (es := es) (ls := ls) s h dd t, nd, nk, e, nF => by
    obtain ⟨n1, n2⟩ := List.nodup_cons.mp nd
    obtain ⟨m1, m2⟩ := List.nodup_cons.mp (show (k' :: es.map (·.1)).Nodup from nk)
    by_cases ek : k' = k
    · rw [atKey_pos ek] at e
      cases e
      subst ek
      have pk : ∀ ys, Keeps F F H (upd H l (.lst ys)) := fun ys => poke_keeps nF h
      refine ⟨vs', ds', h, List.mem_cons_self, dd.length, fun hv => ?_⟩
      have no : ∀ x ∈ kl, x.1 ≠ k' := fun x hx z => by
        have : ∀ {kl : List (List Int × List D)} {es : List TE3} {ls : List Addr}, Grp K F H kl es ls → kl.map (·.1) = es.map (·.1) := by
          intro kl es ls g
          induction g with
          | nil => rfl
          | cons _ _ _ _ ih => rw [List.map_cons, List.map_cons, ih]
        exact m1 (by rw [← this t, ← z]; exact List.mem_map_of_mem hx)
      have e2 : grpApp ((k', ds') :: kl) k' d = (k', ds' ++ [d]) :: kl := by
        unfold grpApp
        rw [List.map_cons, if_pos rfl]
        congr 1
        have : kl.map (fun x => if x.1 = k' then (x.1, x.2 ++ [d]) else x) = kl.map id := List.map_congr_left fun x hx => if_neg (no x hx)
        rw [this, List.map_id]
      rw [e2]
      exact .cons ((pk _).sqt s) upd_same ((dd.append (.cons hv .nil)).keeps (pk _)) (t.keeps (pk _) fun l2 m o e => by rw [upd_ne (show l2 ≠ l from fun z => n1 (z ▸ m))]; exact e)
    · rw [atKey_neg ek] at e
      obtain ⟨vs, ds, z1, z2, z3, z4⟩ := Grp.app t n2 m2 e nF
      refine ⟨vs, ds, z1, List.mem_cons_of_mem _ z2, z3, fun hv => ?_⟩
      have pk : ∀ ys, Keeps F F H (upd H l (.lst ys)) := fun ys => poke_keeps nF z1
      have lm : l ∈ ls := by
        rcases t.at k with ⟨y, _⟩ | ⟨b2, l2, y1, y2, _⟩
        · rw [y] at e; cases e
        · rw [y1] at e; cases e; exact y2
      have ne : l' ≠ l := fun z => n1 (z ▸ lm)
      have e2 : grpApp ((k', ds') :: kl) k d = (k', ds') :: grpApp kl k d := by
        unfold grpApp
        rw [List.map_cons, if_neg ek]
      rw [e2]
      exact .cons ((pk _).sqt s) (by rw [upd_ne ne]; exact h) (dd.keeps (pk _)) (z4 hv)
/-- as a dict whose lists never change any more -/
theorem Grp.dkt {F2 : Rg} (k : Keeps F F2 H H) : ∀ {kl : List (List Int × List D)} {es : List TE3} {ls : List Addr}, Grp K F H kl es ls → (∀ l ∈ ls, F2 l) → Dkt K F2 H (kl.map fun x => (.tuple (x.1.map .int), .list x.2)) es
  | _, _, _, .nil, _ => .nil
  | _, _, _, .cons s h d t, f => .cons (k.sqt s) (.lst (f _ List.mem_cons_self) (.inl h) (d.keeps k)) rfl (Grp.dkt k t fun l m => f l (List.mem_cons_of_mem _ m))
end

section
variable {g : G} {F0 F F1 F' : Rg} {ρ0 ρ ρ1 ρ' : En} {σ0 σ σ' : St} {H0 H H1 H' : Hp} {i j : Nat} {p : Addr} {kl : List (List Int × List D)} {es : List TE3} {ls : List Addr} {is vs : List Nat}
theorem poke_keepsD {es es' : List TE3} {B : Addr} (hF : ¬ F B) (hB : H B = some (tdO B es)) : Keeps F F H (upd H B (tdO B es')) :=
  ⟨fun _ h => h, fun b zs e => by rw [upd_ne (fun z => by subst z; rw [hB] at e; cases e)]; exact e, fun b o zs e => by rw [upd_ne (fun z => by subst z; rw [hB] at e; cases e)]; exact e, fun b u f e => by
    have ne : b ≠ B := fun z => hF (z ▸ f)
    rcases e with e | ⟨o, e⟩
    · exact .inl (by rw [upd_ne ne]; exact e)
    · exact .inr ⟨o, by rw [upd_ne ne]; exact e⟩⟩
/-- an object that nobody has changes -/
theorem Rel.pokeK {B : Addr} {o : HO} (r : Rel g F ρ σ H) (k : Keeps F F H (upd H B o)) (hF : ¬ F B) (ho : ¬ OwnAt ρ σ B) (h0 : g.H0 B = none) : Rel g F ρ σ (upd H B o) := by
  refine ⟨r.len, fun i d e => ?_, fun i d e => ?_, r.dist, r.cupT, r.cupF, r.F0, r.Fn, fun a f z => ?_, fun a o e n => ?_⟩
  · obtain ⟨v, e1, h⟩ := r.sh i d e
    exact ⟨v, e1, h.keeps k⟩
  · obtain ⟨a, e1, o, n, f⟩ := r.own i d e
    have ne : a ≠ B := fun z => ho ⟨i, d, e, z ▸ e1⟩
    exact ⟨a, e1, o.keeps k (fun u eu => by rw [upd_ne ne]; exact eu), n, f⟩
  · have ne : a ≠ B := fun z => hF (z ▸ f)
    rw [upd_ne ne] at z
    exact r.Fs a f z
  · have ne : a ≠ B := fun z => by rw [z, h0] at e; cases e
    rw [upd_ne ne]
    exact r.base a o e n
theorem Post.pokeK {B : Addr} {o : HO} (p : Post g F ρ σ H F1 ρ1 σ' H1) (k : Keeps F1 F1 H1 (upd H1 B o)) (hn : H B = none) (hF : ¬ F1 B) (ho : ¬ OwnAt ρ1 σ' B) (h0 : g.H0 B = none) : Post g F ρ σ H F1 ρ1 σ' (upd H1 B o) :=
  ⟨p.rel.pokeK k hF ho h0, p.mono, fun b u e n => by
    rw [upd_ne (fun z => by subst z; rw [hn] at e; cases e)]
    exact p.kept b u e n, fun b h => by
    by_cases z : b = B
    · subst z; exact absurd hn h
    · rw [upd_ne z]; exact p.there b h, p.newF, p.newO⟩

structure GI (g : G) (F0 : Rg) (ρ0 : En) (σ0 : St) (H0 : Hp) (i : Nat) (p : Addr) (F : Rg) (ρ : En) (σ : St) (H : Hp) (kl : List (List Int × List D)) (es : List TE3) (ls : List Addr) : Prop where
  post : Post g F0 ρ0 σ0 H0 F ρ σ H
  sp : σ[i]? = some (some (.ref p))
  hp : H p = some (tdO p es)
  grp : Grp g.K F H kl es ls
  nd : (p :: ls).Nodup
  nk : (es.map (·.1)).Nodup
  hid : ∀ a ∈ p :: ls, H0 a = none ∧ ¬ F a ∧ ¬ OwnAt ρ σ a
theorem GI.tpo (h : GI g F0 ρ0 σ0 H0 i p F ρ σ H kl es ls) (r0 : Rel g F0 ρ0 σ0 H0) (t : TPo g F ρ σ H F' ρ' H') : GI g F0 ρ0 σ0 H0 i p F' ρ' σ H' kl es ls := by
  have kk := t.post.keeps h.post.rel
  have sm : ∀ a ∈ p :: ls, H a ≠ none := fun a m => by
    rcases List.mem_cons.mp m with rfl | m
    · rw [h.hp]; exact fun z => nomatch z
    · obtain ⟨vs, e⟩ := h.grp.lists a m
      rw [e]; exact fun z => nomatch z
  refine ⟨h.post.trans r0 t.post, h.sp, t.post.kept _ _ h.hp (h.hid p List.mem_cons_self).2.2, h.grp.keeps kk fun l m o e => t.post.kept _ _ e (h.hid l (List.mem_cons_of_mem _ m)).2.2, h.nd, h.nk, fun a m => ?_⟩
  obtain ⟨z1, z2, z3⟩ := h.hid a m
  refine ⟨z1, fun f => ?_, fun o => z3 (t.shr a o)⟩
  rcases t.post.newF a f with y | y | y
  · exact z2 y
  · exact sm a m y
  · exact z3 y
theorem GI.tg (h : GI g F0 ρ0 σ0 H0 i p F ρ σ H kl es ls) (r : Rel g F ρ' σ' H) (o : ∀ b, OwnAt ρ' σ' b → OwnAt ρ σ b) (e : σ'[i]? = σ[i]?) : GI g F0 ρ0 σ0 H0 i p F ρ' σ' H kl es ls :=
  ⟨⟨r, h.post.mono, h.post.kept, h.post.there, h.post.newF, fun b z => h.post.newO b (o b z)⟩, by rw [e]; exact h.sp, h.hp, h.grp, h.nd, h.nk, fun a m => let ⟨z1, z2, z3⟩ := h.hid a m; ⟨z1, z2, fun z => z3 (o a z)⟩⟩
theorem GI.wipe (h : GI g F0 ρ0 σ0 H0 i p F ρ σ H kl es ls) (e : ρ.wipe vs = some ρ') : GI g F0 ρ0 σ0 H0 i p F ρ' σ H kl es ls := by
  obtain ⟨hc, rfl⟩ := En.wipe_some e
  exact h.tg (h.post.rel.wiped rfl (fun _ _ => rfl) hc) (fun b z => ownAt_wiped (fun _ _ => rfl) z) rfl
theorem Grp.kl_keys : ∀ {kl : List (List Int × List D)} {es : List TE3} {ls : List Addr}, Grp g.K F H kl es ls → kl.map (·.1) = es.map (·.1)
  | _, _, _, .nil => rfl
  | _, _, _, .cons _ _ _ t => by rw [List.map_cons, List.map_cons, Grp.kl_keys t]
theorem atKey_append {x : List Int} {q : Addr × Value} : ∀ {es : List TE3}, atKey es x = none → atKey (es ++ [(x, q)]) x = some q
  | [], _ => atKey_pos rfl
  | e :: es, h => by
    by_cases z : e.1 = x
    · rw [atKey_pos z] at h; cases h
    · rw [atKey_neg z] at h
      rw [List.cons_append, atKey_neg z]
      exact atKey_append h
theorem grpEns_in {kl : List (List Int × List D)} {k : List Int} (h : ∃ x ∈ kl, x.1 = k) : grpEns kl k = kl := by
  obtain ⟨x, m, e⟩ := h
  unfold grpEns
  rw [if_pos (List.any_eq_true.mpr ⟨x, m, decide_eq_true e⟩)]
theorem grpEns_out {kl : List (List Int × List D)} {k : List Int} (h : ∀ x ∈ kl, x.1 ≠ k) : grpEns kl k = kl ++ [(k, [])] := by
  unfold grpEns
  rw [if_neg fun z => ?_]
  obtain ⟨x, m, e⟩ := List.any_eq_true.mp z
  exact h x m (of_decide_eq_true e)
/-- a new key -/
theorem GI.new (h : GI g F0 ρ0 σ0 H0 i p F ρ σ H kl es ls) (r0 : Rel g F0 ρ0 σ0 H0) {k : List Int} {b r : Addr} (hb : SqT g.K H b (k.map V.int)) (hr : H r = some (.lst [])) (nr : r ∉ p :: ls) (h0 : H0 r = none) (nF : ¬ F r) (nO : ¬ OwnAt ρ σ r)
    (ha : atKey es k = none) (hk : ∀ x ∈ kl, x.1 ≠ k) : GI g F0 ρ0 σ0 H0 i p F ρ σ (upd H p (tdO p (storedH es k b (.ref r)))) (grpEns kl k) (storedH es k b (.ref r)) (ls ++ [r]) ∧ Keeps F F H (upd H p (tdO p (storedH es k b (.ref r)))) := by
  have kk : Keeps F F H (upd H p (tdO p (storedH es k b (.ref r)))) := poke_keepsD (h.hid p List.mem_cons_self).2.1 h.hp
  obtain ⟨n1, n2⟩ := List.nodup_cons.mp h.nd
  have rp : r ≠ p := fun z => nr (z ▸ List.mem_cons_self)
  refine ⟨⟨h.post.pokeK kk (h.hid p List.mem_cons_self).1 (h.hid p List.mem_cons_self).2.1 (h.hid p List.mem_cons_self).2.2 (r0.fresh0 (h.hid p List.mem_cons_self).1), h.sp, upd_same, ?_, ?_, ?_, fun a m => ?_⟩, kk⟩
  · rw [grpEns_out hk, storedH_new ha]
    have kk' : Keeps F F H (upd H p (tdO p (es ++ [(k, b, .ref r)]))) := by rw [storedH_new ha] at kk; exact kk
    refine .append (h.grp.keeps kk' fun l m o e => by rw [upd_ne (show l ≠ p from fun z => n1 (z ▸ m))]; exact e) (.cons (kk'.sqt hb) (by rw [upd_ne rp]; exact hr) .nil .nil)
  · have e : p :: (ls ++ [r]) = (p :: ls) ++ [r] := rfl
    rw [e]
    refine List.nodup_append.mpr ⟨h.nd, by simp, fun a m b' mb z => ?_⟩
    rw [List.mem_singleton] at mb
    subst z mb
    exact nr m
  · rw [storedH_new ha, List.map_append]
    refine List.nodup_append.mpr ⟨h.nk, by simp, fun a m b' mb z => ?_⟩
    rw [List.map_singleton, List.mem_singleton] at mb
    subst z mb
    rw [← h.grp.kl_keys] at m
    obtain ⟨x, mx, ex⟩ := List.mem_map.mp m
    exact hk x mx ex
  · rcases List.mem_cons.mp m with rfl | m
    · exact h.hid a List.mem_cons_self
    · rcases List.mem_append.mp m with m | m
      · exact h.hid a (List.mem_cons_of_mem _ m)
      · rw [List.mem_singleton] at m
        subst m
        exact ⟨h0, nF, nO⟩
/-- an item more -/
theorem GI.app (h : GI g F0 ρ0 σ0 H0 i p F ρ σ H kl es ls) (r0 : Rel g F0 ρ0 σ0 H0) {k : List Int} {b l : Addr} (ha : atKey es k = some (b, .ref l)) (ml : l ∈ ls) {d : D} {v : V} (hv : Dt g.K F H d v) :
    ∃ ws ds, H l = some (.lst ws) ∧ (k, ds) ∈ kl ∧ ds.length = ws.length ∧ GI g F0 ρ0 σ0 H0 i p F ρ σ (upd H l (.lst (ws ++ [v]))) (grpApp kl k d) es ls ∧ Keeps F F H (upd H l (.lst (ws ++ [v]))) := by
  obtain ⟨n1, n2⟩ := List.nodup_cons.mp h.nd
  obtain ⟨hl0, hlF, hlO⟩ := h.hid l (List.mem_cons_of_mem _ ml)
  obtain ⟨ws, ds, z1, z2, z3, z4⟩ := h.grp.app (d := d) (v := v) n2 h.nk ha hlF
  have kk : Keeps F F H (upd H l (.lst (ws ++ [v]))) := poke_keeps hlF z1
  exact ⟨ws, ds, z1, z2, z3, ⟨h.post.pokeK kk hl0 hlF hlO (r0.fresh0 hl0), h.sp, by rw [upd_ne (show p ≠ l from fun z => n1 (z ▸ ml))]; exact h.hp, z4 hv, h.nd, h.nk, h.hid⟩, kk⟩
/-- the dict is our own at the end -/
theorem GI.fin (h : GI g F0 ρ0 σ0 H0 i p F ρ σ H kl es ls) (r0 : Rel g F0 ρ0 σ0 H0) (e : ρ.set i (.own (tD (kl.map fun x => (.tuple (x.1.map .int), .list x.2)))) = some ρ') : ∃ F', Post g F0 ρ0 σ0 H0 F' ρ' σ H := by
  obtain ⟨hc, hi, rfl⟩ := En.set_some e
  obtain ⟨n1, n2⟩ := List.nodup_cons.mp h.nd
  have plus : ∀ (l : List Addr) (F : Rg), Rel g F ρ σ H → (∀ a ∈ l, g.H0 a = none ∧ H a ≠ none ∧ ¬ OwnAt ρ σ a) → Rel g (fun a => F a ∨ a ∈ l) ρ σ H := by
    intro l
    induction l with
    | nil => intro F r _; have : (fun a => F a ∨ a ∈ ([] : List Addr)) = F := by funext a; simp
             rw [this]; exact r
    | cons b l ih =>
      intro F r hl
      obtain ⟨z1, z2, z3⟩ := hl b List.mem_cons_self
      have := ih (PD.plus F b) (r.plus z3 z1 z2) fun a m => hl a (List.mem_cons_of_mem _ m)
      have e : (fun a => PD.plus F b a ∨ a ∈ l) = (fun a => F a ∨ a ∈ b :: l) := by
        funext a
        unfold PD.plus
        rw [List.mem_cons]
        exact propext ⟨fun z => by rcases z with (z | z) | z <;> simp [z], fun z => by rcases z with z | z | z <;> simp [z]⟩
      rw [← e]
      exact this
  have sm : ∀ a ∈ ls, H a ≠ none := fun a m => by
    obtain ⟨vs, e⟩ := h.grp.lists a m
    rw [e]; exact fun z => nomatch z
  have r1 := plus ls F h.post.rel fun a m => ⟨r0.fresh0 (h.hid a (List.mem_cons_of_mem _ m)).1, sm a m, (h.hid a (List.mem_cons_of_mem _ m)).2.2⟩
  have kF : Keeps F (fun a => F a ∨ a ∈ ls) H H := ⟨fun _ h => .inl h, fun _ _ h => h, fun _ _ _ h => h, fun _ _ _ h => h⟩
  have mo : Mo g.K (fun a => F a ∨ a ∈ ls) H (tD (kl.map fun x => (.tuple (x.1.map .int), .list x.2))) p := .inr (.inr ⟨_, es, rfl, h.hp, h.grp.dkt kF fun l m => .inr m⟩)
  have hp := h.hid p List.mem_cons_self
  have same : σ.set i (some (.ref p)) = σ := by
    obtain ⟨hl, e⟩ := List.getElem?_eq_some_iff.mp h.sp
    rw [← e, List.set_getElem_self]
  have r2 := set_core (s := .own (tD (kl.map fun x => (.tuple (x.1.map .int), .list x.2)))) (v := .ref p) r1 hc hi ⟨p, rfl, mo, fun z => z.elim hp.2.1 n1, hp.2.2, r0.fresh0 hp.1⟩
  rw [same] at r2
  refine ⟨_, r2, fun a f => .inl (h.post.mono a f), h.post.kept, h.post.there, fun b f => ?_, fun b o => ?_⟩
  · rcases f with f | f
    · exact h.post.newF b f
    · exact .inr (.inl (h.hid b (List.mem_cons_of_mem _ f)).1)
  · have o' : OwnAt { ρ with sl := ρ.sl.set i (some (.own (tD (kl.map fun x => (.tuple (x.1.map .int), .list x.2))))) } (σ.set i (some (.ref p))) b := by rw [same]; exact o
    rcases ownAt_set o' with ⟨_, z⟩ | z
    · cases z
      exact .inr hp.1
    · exact h.post.newO b z
end

/-! ### the two statements -/
def grpGo (tg : DG) (fe : DE) (j : Nat) (fk fv : DE) (vs : List Nat) : List D → List (List Int × List D) → En → Option (List (List Int × List D) × En)
  | [], kl, ρ => some (kl, ρ)
  | d :: ds, kl, ρ => (tg d ρ).bind fun ρ1 => (fe ρ1).bind fun x => match x.1 with
    | .sh dk => (x.2.set j (.sh dk)).bind fun ρ2 => (fk ρ2).bind fun y => (y.1.get y.2).bind fun d1 => (tOf d1).bind fun k => (fv y.2).bind fun z => (z.1.give z.2).bind fun u =>
      (u.2.wipe vs).bind fun ρ3 => grpGo tg fe j fk fv vs ds (grpApp (grpEns kl k) k u.1) ρ3
    | _ => none
def dGrp (i : Nat) (fi : DI) (tg : DG) (fe : DE) (j : Nat) (fk fv : DE) (vs : List Nat) : DS := fun ρ => (ρ.wipe [i]).bind fun ρw => if i < ρw.sl.length then (fi ρw).bind fun x => if x.1.length ≤ 16777216 then
  (grpGo tg fe j fk fv vs x.1 [] x.2).bind fun y => (y.2.set i (.own (tD (y.1.map fun q => (.tuple (q.1.map .int), .list q.2))))).map .nx else none else none
theorem grpEns_len {kl : List (List Int × List D)} {k : List Int} {n : Nat} (h1 : kl.length ≤ n) (h2 : ∀ q ∈ kl, q.2.length ≤ n) {d : D} : (grpApp (grpEns kl k) k d).length ≤ n + 1 ∧ ∀ q ∈ grpApp (grpEns kl k) k d, q.2.length ≤ n + 1 := by
  have e : (grpEns kl k).length ≤ n + 1 ∧ ∀ q ∈ grpEns kl k, q.2.length ≤ n := by
    unfold grpEns
    split
    · exact ⟨by omega, h2⟩
    · refine ⟨by rw [List.length_append, List.length_singleton]; omega, fun q m => ?_⟩
      rcases List.mem_append.mp m with m | m
      · exact h2 q m
      · rw [List.mem_singleton] at m
        subst m
        exact Nat.zero_le _
  refine ⟨by unfold grpApp; rw [List.length_map]; exact e.1, fun q m => ?_⟩
  unfold grpApp at m
  obtain ⟨x, mx, rfl⟩ := List.mem_map.mp m
  have := e.2 x mx
  split
  · simp only [List.length_append, List.length_singleton]; omega
  · omega

section
variable {X : Cx} {found home : Str} {pa pd ps p1 p2 pb pe pf pq apos cpos apos2 cpos2 : Pos} {tg iter e em ev : Expr} {rest : List Stmt} {fi : DI} {ft : DG} {fe fk fem fva : DE} {fr : DS} {is : List Nat}
theorem pssd_grp (hu : X.A.units + 1 < cLine) (hp : PassesOwn (model X.prog X.w) X.A X.env X.xe) (hc : X.calm = true) (hN : X.N.Nodup) (i j : Nat) (hi : X.N[i]? = some found) (hj : X.N[j]? = some home) (hli : Loc X.env.scope found) (hlj : Loc X.env.scope home)
    (hit : PID X tg iter fi) (hgt : PGD X tg ft is) (he : PED X e fe) (hv : PE X (.Name found p1) (tVar i)) (hk : PED X (.Name home p2) fk) (hem : PED X em fem) (hva : PED X ev fva) (hr : PSsD X rest fr) (vs : List Nat)
    (hfem : ∀ ρ, fem ρ = some (.fr (.list []), ρ) := by intro _; rfl) (nis : i ∉ is := by decide) (nij : i ≠ j := by decide)
    (hfi : X.fn found = true ∨ X.env.scope.names.lookup found = some .local := by first | exact .inl rfl | exact .inr rfl) (hfj : X.fn home = true ∨ X.env.scope.names.lookup home = some .local := by first | exact .inl rfl | exact .inr rfl)
    (m : M2 X (.Name found p1) "setdefault" apos (.Name home p2) em cpos := by exact ⟨rfl, rfl, rfl, rfl⟩)
    (a1 : swapsWithSole [.Name found pa] (.Dict [] [] pd) ps.line X.env = pure false := by rfl) (a2 : swappedStores [.Name found pa] (.Dict [] [] pd) X.env = pure none := by rfl) (a3 : (assignEach [.Name found pa] X.env).map (·.2) = [assign (.Name found pa) X.env] := by rfl)
    (b1 : swapsWithSole [.Name home pb] e pe.line X.env = pure false := by rfl) (b2 : swappedStores [.Name home pb] e X.env = pure none := by rfl) (b3 : (assignEach [.Name home pb] X.env).map (·.2) = [assign (.Name home pb) X.env] := by rfl)
    (c1 : ∀ x, foldedSetIterable iter X.env x = pure x := by intro _; rfl)
    (d1 : attributeBase (.Call (.Attribute (.Name found p1) "setdefault" apos) [.Name home p2, em] [] cpos) "append" X.env (eval (.Call (.Attribute (.Name found p1) "setdefault" apos) [.Name home p2, em] [] cpos) X.env) = eval (.Call (.Attribute (.Name found p1) "setdefault" apos) [.Name home p2, em] [] cpos) X.env := by rfl)
    (d2 : ((backTo cpos2 (starEach [ev] X.env)).all (fun x => !x.1) && (backToKw cpos2 (keywordEach [] X.env)).all (fun x => x.1.isSome)
      && decide ([ev].length + ([] : List Keyword).length + (if ([] : List Keyword).isEmpty then 0 else 1) < 30)) = true := by rfl)
    (d3 : (apos2.endLine == cpos2.line) = true := by rfl) (d4 : starEach [ev] X.env = (false, eval ev X.env) :: starEach [] X.env := by rfl)
    (d5 : swapsWith (.Call (.Attribute (.Call (.Attribute (.Name found p1) "setdefault" apos) [.Name home p2, em] [] cpos) "append" apos2) [ev] [] cpos2) none pq.line X.env = pure false := by rfl) :
    PSsD X (.Assign [.Name found pa] (.Dict [] [] pd) ps :: .For tg iter [.Assign [.Name home pb] e pe, .Expr (.Call (.Attribute (.Call (.Attribute (.Name found p1) "setdefault" apos) [.Name home p2, em] [] cpos) "append" apos2) [ev] [] cpos2) pq] [] pf :: rest)
      (dSeq (dGrp i fi ft fe j fk fva vs) fr) := fun g hg => by
  refine (pss_cons (ps_asg pe_dnewX (pg_name hN hi hli hfi) a1 a2 a3) (pss_cons (ps_for hp hc (hit g hg) (hgt g hg) (pss_cons (ps_asg (he g hg) (pg_name hN hj hlj hfj) b1 b2 b3) (pss_one (ps_expr (pe_bm PySem.F.plainAttrs_list PySem.F.slot_list_append PySem.F.type_list_append mt_append
    (pe_tsetd hu hv (hk g hg) (hem g hg) m) (pa_cons (hva g hg) pa_nil d4) d1 d2 d3 d4 rfl) d5))) c1) (hr g hg))).wk fun E σ H t => ?_
  obtain ⟨F, ρ, r, fl, e0, q⟩ := t
  obtain ⟨fl1, e1, e0⟩ := Option.bind_eq_some_iff.mp e0
  obtain ⟨ρw, ew, e1⟩ := Option.bind_eq_some_iff.mp e1
  have hil : i < ρw.sl.length := by
    refine Classical.byContradiction fun z => ?_
    rw [if_neg z] at e1
    cases e1
  rw [if_pos hil] at e1
  obtain ⟨⟨ds, ρ1⟩, ei, e1⟩ := Option.bind_eq_some_iff.mp e1
  have hlen : ds.length ≤ 16777216 := by
    refine Classical.byContradiction fun z => ?_
    rw [if_neg z] at e1
    cases e1
  rw [if_pos hlen] at e1
  obtain ⟨⟨kl, ρ2⟩, e2, e1⟩ := Option.bind_eq_some_iff.mp e1
  obtain ⟨ρ3, e3, e1⟩ := Option.map_eq_some_iff.mp e1
  subst e1
  obtain ⟨hc0, rfl⟩ := En.wipe_some ew
  intro p hpn
  have hil' : i < σ.length := by
    have := hil
    simp only [wipeS_length] at this
    rw [← r.len]; exact this
  have hσ : ∀ k, k ∉ [i] → (σ.set i (some (V.ref p)))[k]? = σ[k]? := fun k hk => List.getElem?_set_ne (fun z => hk (by simp [z]))
  have r1 : Rel g F { ρ with sl := wipeS ρ.sl [i] } (σ.set i (some (.ref p))) H := r.wiped List.length_set hσ hc0
  have gi0 : GI g F ρ σ H i p F { ρ with sl := wipeS ρ.sl [i] } (σ.set i (some (.ref p))) (upd H p (tdO p [])) [] [] [] :=
    ⟨⟨r1.keptAll (upd_kept hpn), fun _ h => h, fun b u e _ => upd_kept hpn _ _ e, fun b h => by
      by_cases z : b = p
      · subst z; exact absurd hpn h
      · rw [upd_ne z]; exact h, fun _ h => .inl h, fun b h => .inl (ownAt_wiped hσ h)⟩, List.getElem?_set_self hil', upd_same, .nil, by simp, by simp, fun a m => by
      rw [List.mem_singleton] at m
      subst m
      exact ⟨hpn, r.notF hpn, fun z => r.notOwnN hpn (ownAt_wiped hσ z)⟩⟩
  refine ⟨F, _, gi0.post.rel, ds, ρ1, ei, fun J H2 F2 t2 ok => ?_⟩
  have gi1 := gi0.tpo r t2
  obtain ⟨Gd, Y, wk, hG, hY⟩ := ok
  refine ⟨fun n m σ2 H3 => m + n = ds.length ∧ ∃ F3 ρ3 kl' es ls, GI g F ρ σ H i p F3 ρ3 σ2 H3 kl' es ls ∧ Keeps F2 F3 H2 H3 ∧ kl'.length ≤ n ∧ (∀ q ∈ kl', q.2.length ≤ n) ∧ grpGo ft fe j fk fva vs (ds.drop n) kl' ρ3 = some (kl, ρ2),
    ⟨ds.length, by omega, F2, ρ1, [], [], [], gi1, ⟨fun _ h => h, fun _ _ h => h, fun _ _ _ h => h, fun _ _ _ h => h⟩, Nat.le_refl _, (fun q m => nomatch m), by rw [List.drop_zero]; exact e2⟩, ?_⟩
  rintro n m σ2 H3 ⟨hm, F3, ρ4, kl', es, ls, gi, K3, l1, l2, e4⟩
  have gd := hG F3 H3 K3
  by_cases hi' : n < ds.length
  · refine .inr ⟨wk.goes n H3 hi' gd, fun σ4 H4 => ∃ F4 ρ5 kl' es ls, GI g F ρ σ H i p F4 ρ5 σ4 H4 kl' es ls ∧ Keeps F2 F4 H2 H4 ∧ kl'.length ≤ n + 1 ∧ (∀ q ∈ kl', q.2.length ≤ n + 1) ∧ grpGo ft fe j fk fva vs (ds.drop (n + 1)) kl' ρ5 = some (kl, ρ2),
      fun σ4 H4 z => ⟨m - 1, by omega, by omega, z⟩, fun x H4 y => ?_⟩
    have ed : ds.drop n = ds[n] :: ds.drop (n + 1) := List.drop_eq_getElem_cons hi'
    rw [ed] at e4
    obtain ⟨ρ5, e5, e4⟩ := Option.bind_eq_some_iff.mp e4
    obtain ⟨⟨w, ρ6⟩, e6, e4⟩ := Option.bind_eq_some_iff.mp e4
    cases w with
    | fr _ => cases e4
    | vr _ => cases e4
    | sh dk =>
      obtain ⟨ρ7, e7, e4⟩ := Option.bind_eq_some_iff.mp e4
      obtain ⟨⟨wk1, ρ8⟩, e8, e4⟩ := Option.bind_eq_some_iff.mp e4
      obtain ⟨d1', e9, e4⟩ := Option.bind_eq_some_iff.mp e4
      obtain ⟨k, e10, e4⟩ := Option.bind_eq_some_iff.mp e4
      obtain ⟨⟨wv, ρ9⟩, e11, e4⟩ := Option.bind_eq_some_iff.mp e4
      obtain ⟨⟨dv, ρ10⟩, e12, e4⟩ := Option.bind_eq_some_iff.mp e4
      obtain ⟨ρ11, e13, e4⟩ := Option.bind_eq_some_iff.mp e4
      obtain ⟨tn, dn⟩ := (hY n ds[n] F3 H3 x H4 (List.getElem?_eq_getElem hi') K3 (wk.yields n H3 x H4 hi' gd y)).tpo gi.post.rel
      have ga := gi.tpo r tn
      have Ka := K3.trans (tn.post.keeps gi.post.rel)
      refine ⟨F3, ρ4, ds[n], tn.post.rel, dn, ρ5, e5, fun σ4 r4 o4 y4 _ => ?_⟩
      have si : σ4[i]? = σ2[i]? := by
        have := congrArg (·[i]?) (y4 is fun _ h => h)
        simpa only [wipe_get nis] using this
      have gb := ga.tg r4 o4 si
      refine ⟨F3, ρ5, r4, .sh dk, ρ6, e6, fun vk H5 F5 p5 => ?_⟩
      have gc := gb.tpo r p5.t
      have Kc := Ka.trans (p5.t.post.keeps r4)
      obtain ⟨r7, o7⟩ := gc.post.rel.setSh (sh_inv p5.rw) e7
      have gd2 := gc.tg r7 o7 (List.getElem?_set_ne (fun z => nij z.symm))
      refine ⟨.ref p, gd2.sp, p, rfl, ⟨es, .inl gd2.hp, hg ▸ gd2.grp.keys⟩, F5, ρ7, r7, wk1, ρ8, e8, fun vb H6 F6 p6 => ?_⟩
      have ge := gd2.tpo r p6.t
      have Ke := Kc.trans (p6.t.post.keeps r7)
      have r8 := ge.post.rel
      obtain ⟨b, hb, sq⟩ := tOf_val e10 (RW.top r8 p6.rw e9)
      refine ⟨F6, ρ8, r8, _, ρ8, hfem ρ8, fun vr H7 F7 p7 => ?_⟩
      have gf := ge.tpo r p7.t
      have Kf := Ke.trans (p7.t.post.keeps r8)
      obtain ⟨rr, er, mor, nFr, nOr, h0r⟩ := p7.rw
      have hr6 := p7.new rr ⟨⟨_, rfl⟩, er⟩
      obtain ⟨xs0, hr7, ds0⟩ := mor.lst_inv
      cases ds0
      have nin : rr ∉ p :: ls := fun z => by
        have : H6 rr ≠ none := by
          rcases List.mem_cons.mp z with z | z
          · rw [z, ge.hp]; exact fun y => nomatch y
          · obtain ⟨vs', e⟩ := ge.grp.lists rr z
            rw [e]; exact fun y => nomatch y
        exact this hr6
      have hr0 : H rr = none := by
        cases z : H rr with
        | none => rfl
        | some u => exact absurd hr6 (ge.post.there rr (by rw [z]; exact fun y => nomatch y))
      have sq7 := (p7.t.post.keeps r8).sqt sq
      have ln := grpEns_len (k := k) l1 l2 (d := dv)
      -- what is done behind the key is there
      have rest : ∀ H8 es' ls' l b', GI g F ρ σ H i p F7 ρ8 (σ4.set j (some vk)) H8 (grpEns kl' k) es' ls' → Keeps F7 F7 H7 H8 → atKey es' k = some (b', .ref l) → l ∈ ls' →
          tyV X.K "list" (.ref l) H8 ∧ tCons (tE g fva) tNil (σ4.set j (some vk)) H8 fun xs H9 => rAppend (.ref l) xs H9 fun x H1 => ∃ F4 ρ5 kl' es ls, GI g F ρ σ H i p F4 ρ5 (σ4.set j (some vk)) H1 kl' es ls ∧ Keeps F2 F4 H2 H1 ∧ kl'.length ≤ n + 1 ∧ (∀ q ∈ kl', q.2.length ≤ n + 1) ∧ grpGo ft fe j fk fva vs (ds.drop (n + 1)) kl' ρ5 = some (kl, ρ2) := by
        intro H8 es' ls' l b' gg Kg ha ml
        have r9 := gg.post.rel
        refine ⟨.inl ⟨rfl, ?_⟩, F7, ρ8, r9, wv, ρ9, e11, fun vv H9 F9 p9 => ?_⟩
        · obtain ⟨vs', e⟩ := gg.grp.lists l ml
          exact ⟨vs', .inl (.inl e)⟩
        obtain ⟨F10, p10, hd⟩ := p9.give e12
        have gh := gg.tpo r p10
        have Kh := (Kf.trans Kg).trans (p10.post.keeps r9)
        obtain ⟨ws, ds', z1, z2, z3, gk, Kk⟩ := gh.app r ha ml hd
        refine ⟨l, ws, vv, rfl, rfl, z1, ?_, F10, ρ11, _, es', ls', gk.wipe e13, Kh.trans Kk, ln.1, ln.2, e4⟩
        have : ds'.length ≤ n := by
          unfold grpEns at z2
          split at z2
          · exact l2 _ z2
          · rcases List.mem_append.mp z2 with z2 | z2
            · exact l2 _ z2
            · rw [List.mem_singleton] at z2
              cases z2
              exact Nat.zero_le _
        rw [sizeLine_eq, ← z3]
        omega
      refine ⟨es, k, b, gf.hp, hg ▸ gf.grp.keys, hb, hg ▸ sq7, ?_, fun pp hpp => ?_, fun hn rv hrv => ?_⟩
      · rw [sizeLine_eq, ← gf.grp.length]; omega
      · rcases gf.grp.at k with ⟨z, _⟩ | ⟨b', l, z1, z2, z3⟩
        · rw [z] at hpp; cases hpp
        · rw [z1] at hpp
          cases hpp
          exact ⟨.ref l, rfl, rest H7 es ls l b' (by rw [grpEns_in z3]; exact gf) ⟨fun _ h => h, fun _ _ h => h, fun _ _ _ h => h, fun _ _ _ h => h⟩ z1 z2⟩
      · rcases gf.grp.at k with ⟨_, z⟩ | ⟨b', l, z1, z2, z3⟩
        · subst er
          cases (show rv = Value.ref rr from hrv)
          obtain ⟨gn, Kn⟩ := gf.new r sq7 hr7 nin hr0 nFr nOr hn z
          exact rest _ _ _ rr b gn Kn (by rw [storedH_new hn]; exact atKey_append hn) (by simp)
        · rw [z1] at hn; cases hn
  · have hie : n = ds.length := by omega
    subst hie
    rw [List.drop_length] at e4
    cases e4
    obtain ⟨F5, pf⟩ := gi.fin r e3
    exact .inl ⟨wk.stops H3 gd, F5, ρ3, pf.rel, fl, e0, q.from r pf⟩
end
/-! ### room -/
theorem _root_.L2.Room.u1 {k : Nat} {A : Around} (r : Room k A) : A.units + 1 < cLine := by have := r.un; omega
theorem _root_.L2.Room.u2 {k : Nat} {A : Around} (r : Room k A) : A.units + 2 < cLine := by have := r.un; omega
theorem _root_.L2.Room.u64 {k : Nat} {A : Around} (r : Room k A) : A.units + 1 + 64 < cLine := by have := r.un; omega
theorem _root_.L2.Room.u65 {k : Nat} {A : Around} (r : Room k A) : A.units + 65 < cLine := by have := r.un; omega
end PD
set_option Elab.async false
set_option linter.all false
set_option maxRecDepth 100000
set_option maxHeartbeats 4000000
/-! PD23: plain laws of floors: ascending lists of pairs; comprehensions with two names. -/
namespace PD
set_option autoImplicit false
open PySem PySem.Spec L2
open PyProof.Rows hiding St
/-! ### order -/
abbrev P := Int × Int
def ltP (p q : P) : Prop := p.1 < q.1 ∨ (p.1 = q.1 ∧ p.2 < q.2)
instance (p q : P) : Decidable (ltP p q) := by unfold ltP; exact inferInstance
abbrev SS (l : List P) : Prop := l.Pairwise ltP
def floorD (l : List P) : D := .tuple (l.map prD)
def cellsD (l : List P) : D := .list (l.map prD)
theorem ltP_irrefl (p : P) : ¬ ltP p p := by unfold ltP; omega
theorem ltP_trans {p q r : P} (h : ltP p q) (k : ltP q r) : ltP p r := by unfold ltP at *; omega
theorem ltP_tri (p q : P) : ltP p q ∨ p = q ∨ ltP q p := by
  obtain ⟨a, b⟩ := p
  obtain ⟨c, d⟩ := q
  unfold ltP
  simp only [Prod.mk.injEq]
  omega
theorem ltP_le {p q : P} (h : ltP p q) : lePr p q := by unfold ltP at h; unfold lePr; omega
theorem SS.nodup {l : List P} (h : SS l) : l.Nodup := by
  refine List.Pairwise.imp (R := ltP) (fun {a b} k => ?_) h
  intro e
  subst e
  exact ltP_irrefl a k
theorem SS.le {l : List P} (h : SS l) : l.Pairwise lePr := h.imp ltP_le
theorem ss_of {l : List P} (h : l.Pairwise lePr) (n : l.Nodup) : SS l := (h.and n).imp fun {a b} k => by
  rcases ltP_tri a b with z | z | z
  · exact z
  · exact absurd z k.2
  · exact absurd (lePr_anti k.1 (ltP_le z)) k.2
theorem ss_sort {l : List P} (h : l.Nodup) : SS (sortPr l) := ss_of (sortPr_sorted l) ((sortPr_perm l).nodup_iff.mpr h)
theorem mem_sort {l : List P} {p : P} : p ∈ sortPr l ↔ p ∈ l := (sortPr_perm l).mem_iff
theorem len_sort (l : List P) : (sortPr l).length = l.length := (sortPr_perm l).length_eq
theorem perm_of_nodup {α : Type} : ∀ {l m : List α}, l.Nodup → m.Nodup → (∀ p, p ∈ l ↔ p ∈ m) → l.Perm m
  | [], m, _, _, h => by
    have : m = [] := List.eq_nil_iff_forall_not_mem.mpr fun p hp => by have := (h p).mpr hp; cases this
    rw [this]
  | a :: l, m, hl, hm, h => by
    obtain ⟨n1, n2⟩ := List.nodup_cons.mp hl
    obtain ⟨m1, m2, rfl⟩ := List.append_of_mem ((h a).mp List.mem_cons_self)
    have hm' : (a :: (m1 ++ m2)).Nodup := (List.perm_middle.nodup_iff).mp hm
    obtain ⟨k1, k2⟩ := List.nodup_cons.mp hm'
    refine (List.Perm.cons a (perm_of_nodup n2 k2 fun p => ?_)).trans List.perm_middle.symm
    have hp := h p
    have e : p ∈ m1 ++ a :: m2 ↔ p = a ∨ p ∈ m1 ++ m2 := by simp only [List.mem_append, List.mem_cons]; exact ⟨fun z => by rcases z with z | z | z <;> simp [z], fun z => by rcases z with z | z | z <;> simp [z]⟩
    rw [List.mem_cons, e] at hp
    constructor
    · intro hpl
      rcases hp.mp (.inr hpl) with rfl | z
      · exact absurd hpl n1
      · exact z
    · intro hpm
      rcases hp.mpr (.inr hpm) with rfl | z
      · exact absurd hpm k1
      · exact z
theorem ss_ext {l m : List P} (h : SS l) (k : SS m) (e : ∀ p, p ∈ l ↔ p ∈ m) : l = m := perm_sorted_eq (fun _ _ => lePr_anti) (perm_of_nodup h.nodup k.nodup e) h.le k.le
theorem sort_eq {l m : List P} (h : l.Nodup) (k : SS m) (e : ∀ p, p ∈ l ↔ p ∈ m) : sortPr l = m := ss_ext (ss_sort h) k fun p => mem_sort.trans (e p)
theorem sort_self {l : List P} (h : SS l) : sortPr l = l := sort_eq h.nodup h fun _ => Iff.rfl
theorem sort_perm {l m : List P} (h : l.Perm m) (k : l.Pairwise lePr) : sortPr m = l := perm_sorted_eq (fun _ _ => lePr_anti) ((sortPr_perm m).trans h.symm) (sortPr_sorted m) k
theorem SS.filter {l : List P} (h : SS l) (p : P → Bool) : SS (l.filter p) := List.Pairwise.filter p h
theorem nodup_len {α : Type} {l m : List α} (h : l.Nodup) (k : ∀ p ∈ l, p ∈ m) : l.length ≤ m.length := List.Nodup.length_le_of_subset h k
theorem nodup_back {α : Type} : ∀ {l m : List α}, l.Nodup → (∀ p ∈ l, p ∈ m) → m.length ≤ l.length → ∀ p ∈ m, p ∈ l
  | [], m, _, _, hl, p, hp => by
    have : m = [] := List.length_eq_zero_iff.mp (by simpa using hl)
    rw [this] at hp
    exact hp
  | a :: l, m, h, k, hl, p, hp => by
    obtain ⟨n1, n2⟩ := List.nodup_cons.mp h
    obtain ⟨m1, m2, rfl⟩ := List.append_of_mem (k a List.mem_cons_self)
    have k' : ∀ q ∈ l, q ∈ m1 ++ m2 := fun q hq => by
      have := k q (List.mem_cons_of_mem _ hq)
      simp only [List.mem_append, List.mem_cons] at this ⊢
      rcases this with z | rfl | z
      · exact .inl z
      · exact absurd hq n1
      · exact .inr z
    have := nodup_back n2 k' (by simp only [List.length_append, List.length_cons] at hl ⊢; omega)
    simp only [List.mem_append, List.mem_cons] at hp
    rcases hp with z | rfl | z
    · exact List.mem_cons_of_mem _ (this p (List.mem_append_left _ z))
    · exact List.mem_cons_self
    · exact List.mem_cons_of_mem _ (this p (List.mem_append_right _ z))
/-! ### comparisons -/
theorem eqv_pr (p q : P) : PyData.eqv (prD p) (prD q) = decide (p = q) := by
  obtain ⟨a, b⟩ := p
  obtain ⟨c, d⟩ := q
  simp only [prD, PyData.eqv, PyData.eqvAll, Bool.and_true, Prod.mk.injEq]
  by_cases h1 : a = c <;> by_cases h2 : b = d <;> simp [h1, h2]
theorem eqvAll_pr : ∀ l m : List P, PyData.eqvAll (l.map prD) (m.map prD) = decide (l = m)
  | [], [] => rfl
  | [], _ :: _ => rfl
  | _ :: _, [] => rfl
  | p :: l, q :: m => by
    rw [List.map_cons, List.map_cons, PyData.eqvAll, eqv_pr, eqvAll_pr l m]
    by_cases h1 : p = q <;> by_cases h2 : l = m <;> simp [h1, h2]
theorem lay_prs : ∀ l : List P, PyData.canLayAll0 (l.map prD) = true
  | [] => rfl
  | p :: l => by rw [List.map_cons, PyData.canLayAll0, lay_prs l]; simp [prD, PyData.canLay0, PyData.canLayAll0]
theorem depth_prs : ∀ l : List P, PyData.depthAll (l.map prD) ≤ 1
  | [] => Nat.zero_le _
  | p :: l => by
    have := depth_prs l
    rw [List.map_cons, PyData.depthAll]
    simp only [prD, PyData.depth, PyData.depthAll]
    omega
theorem shaped_pr (p : P) : SeqAt.shaped (prD p) = true := by
  show ((prD p).canLay0 && decide ((prD p).depth ≤ 64)) = true
  simp [prD, PyData.canLay0, PyData.canLayAll0, PyData.depth, PyData.depthAll]
theorem shaped_floor (l : List P) : SeqAt.shaped (floorD l) = true := by
  show ((floorD l).canLay0 && decide ((floorD l).depth ≤ 64)) = true
  have := depth_prs l
  rw [floorD, PyData.canLay0, lay_prs, PyData.depth, Bool.true_and]
  exact decide_eq_true (by omega)
theorem shaped_cells (l : List P) : SeqAt.shaped (cellsD l) = true := by
  show ((cellsD l).canLay0 && decide ((cellsD l).depth ≤ 64)) = true
  have := depth_prs l
  rw [cellsD, PyData.canLay0, lay_prs, PyData.depth, Bool.true_and]
  exact decide_eq_true (by omega)
theorem eq_pr (p q : P) : cEq (prD p) (prD q) = some (decide (p = q)) := by unfold cEq; rw [if_pos ⟨shaped_pr p, shaped_pr q⟩, eqv_pr]
theorem ne_pr (p q : P) : cNe (prD p) (prD q) = some (!decide (p = q)) := by unfold cNe; rw [if_pos ⟨shaped_pr p, shaped_pr q⟩, eqv_pr]
theorem eq_floor (l m : List P) : cEq (floorD l) (floorD m) = some (decide (l = m)) := by
  unfold cEq
  rw [if_pos ⟨shaped_floor l, shaped_floor m⟩, floorD, floorD, PyData.eqv, eqvAll_pr]
theorem ne_floor (l m : List P) : cNe (floorD l) (floorD m) = some (!decide (l = m)) := by
  unfold cNe
  rw [if_pos ⟨shaped_floor l, shaped_floor m⟩, floorD, floorD, PyData.eqv, eqvAll_pr]
theorem eq_cells (l m : List P) : cEq (cellsD l) (cellsD m) = some (decide (l = m)) := by
  unfold cEq
  rw [if_pos ⟨shaped_cells l, shaped_cells m⟩, cellsD, cellsD, PyData.eqv, eqvAll_pr]
theorem ne_cells (l m : List P) : cNe (cellsD l) (cellsD m) = some (!decide (l = m)) := by
  unfold cNe
  rw [if_pos ⟨shaped_cells l, shaped_cells m⟩, cellsD, cellsD, PyData.eqv, eqvAll_pr]
theorem any_prs (p : P) : ∀ l : List P, ((l.map prD).any fun z => PyData.eqv z (prD p)) = decide (p ∈ l)
  | [] => by simp
  | q :: l => by
    rw [List.map_cons, List.any_cons, any_prs p l, eqv_pr]
    by_cases h1 : q = p
    · subst h1; simp
    · have : ¬ p = q := fun z => h1 z.symm
      simp [h1, this]
theorem in_floor (p : P) (l : List P) : cIn (prD p) (floorD l) = some (decide (p ∈ l)) := by
  show (if SeqAt.shaped (prD p) = true ∧ SeqAt.shaped (floorD l) = true then some ((l.map prD).any fun z => PyData.eqv z (prD p)) else none) = _
  rw [if_pos ⟨shaped_pr p, shaped_floor l⟩, any_prs]
theorem in_cells (p : P) (l : List P) : cIn (prD p) (cellsD l) = some (decide (p ∈ l)) := by
  show (if SeqAt.shaped (prD p) = true ∧ SeqAt.shaped (cellsD l) = true then some ((l.map prD).any fun z => PyData.eqv z (prD p)) else none) = _
  rw [if_pos ⟨shaped_pr p, shaped_cells l⟩, any_prs]
theorem notIn_floor (p : P) (l : List P) : cNotIn (prD p) (floorD l) = some (!decide (p ∈ l)) := by unfold cNotIn; rw [in_floor]; rfl
theorem notIn_cells (p : P) (l : List P) : cNotIn (prD p) (cellsD l) = some (!decide (p ∈ l)) := by unfold cNotIn; rw [in_cells]; rfl
theorem lt_pr (p q : P) : cLt (prD p) (prD q) = some (decide (ltP p q)) := by
  obtain ⟨a, b⟩ := p
  obtain ⟨c, d⟩ := q
  have h1 : ints? [PyData.int a, PyData.int b] = some [a, b] := ints?_map [a, b]
  have h2 : ints? [PyData.int c, PyData.int d] = some [c, d] := ints?_map [c, d]
  unfold prD cLt
  simp only [h1, h2, Option.bind_some, Option.map_some]
  congr 1
  unfold ltP
  simp only [HT.lexLt]
  by_cases z1 : a = c
  · subst z1
    by_cases z2 : b = d
    · subst z2; simp
    · simp [z2]
  · simp [z1]
theorem imm_pr (p : P) : imm (prD p) = true := rfl
theorem imms_prs (l : List P) : imms (l.map prD) = true := imms_map imm_pr l
theorem imm_floor (l : List P) : imm (floorD l) = true := imms_prs l
theorem inner_cells (l : List P) : inner (cellsD l) = true := imms_prs l
theorem sort_cells (l : List P) : bSort (cellsD l) = some (.fr (cellsD (sortPr l))) := by
  show (match ints? (l.map prD) with
    | some ns => some (W.fr (.list ((sortI ns).map .int)))
    | none => (prs? (l.map prD)).map fun ps => W.fr (.list ((sortPr ps).map prD))) = _
  cases l with
  | nil => rfl
  | cons p l =>
    have : ints? ((p :: l).map prD) = none := rfl
    rw [this, prs?_map]
    rfl
theorem tup_cells (l : List P) : bTuple (cellsD l) = some (.sh (floorD l)) := rfl
theorem tup_floor (l : List P) : bTuple (floorD l) = some (.sh (floorD l)) := rfl
theorem lst_floor (l : List P) : bList (floorD l) = some (.fr (cellsD l)) := rfl
theorem lst_cells (l : List P) : bList (cellsD l) = some (.fr (cellsD l)) := rfl
theorem len_floor (l : List P) : bLen (floorD l) = some (.sh (.int (l.length : Int))) := by unfold floorD; rw [len_tup, List.length_map]
theorem len_cells (l : List P) : bLen (cellsD l) = some (.sh (.int (l.length : Int))) := by unfold cellsD; rw [len_list, List.length_map]
theorem add_cells {l m : List P} (h : l.length + m.length ≤ 16777216) : bAdd (cellsD l) (cellsD m) = some (.fr (cellsD (l ++ m))) := by
  unfold cellsD
  rw [PD.add_list (by rw [List.length_map, List.length_map]; exact h), List.map_append]
theorem ix_floorN {l : List P} {i : Nat} {p : P} (h : l[i]? = some p) : bIx (floorD l) (.int (i : Int)) = some (.sh (prD p)) := ix_tupN (by rw [List.getElem?_map, h]; rfl)
theorem ix_cellsN {l : List P} {i : Nat} {p : P} (h : l[i]? = some p) : bIx (cellsD l) (.int (i : Int)) = some (.sh (prD p)) := ix_listN (by rw [List.getElem?_map, h]; rfl)
theorem ix_pr0 (p : P) : bIx (prD p) (.int 0) = some (.sh (.int p.1)) := ix_tup0 _ _
theorem ix_pr1 (p : P) : bIx (prD p) (.int 1) = some (.sh (.int p.2)) := ix_tup1 _ _ _
theorem items_floor {i : Nat} {ρ : En} {l : List P} (h : ρ.sl[i]? = some (some (.sh (floorD l)))) : dItems (dVar i) ρ = some (l.map prD, ρ) := by
  unfold dItems
  rw [dVar_sh h]
  rfl
/-! ### a floor that the program takes -/
structure Flo (l : List P) : Prop where
  ss : SS l
  ne : l ≠ []
  len : l.length ≤ 400
  rng : ∀ p ∈ l, (0 ≤ p.1 ∧ p.1 ≤ 59) ∧ 0 ≤ p.2 ∧ p.2 ≤ 59
theorem Flo.pos {l : List P} (h : Flo l) : 1 ≤ l.length := by
  have := List.length_pos_iff.mpr h.ne
  omega
/-- the pairs of neighbours in a row -/
theorem zip_next : ∀ l : List P, List.zipWith (fun x y => PyData.tuple [x, y]) (l.map prD) ((l.map prD).drop 1) = (l.zip (l.drop 1)).map fun x => .tuple [prD x.1, prD x.2]
  | [] => rfl
  | p :: l => by
    rw [List.map_cons, List.drop_succ_cons, List.drop_zero]
    have key : ∀ (p : P) (l : List P), List.zipWith (fun x y => PyData.tuple [x, y]) (prD p :: l.map prD) (l.map prD) = ((p :: l).zip l).map fun x => PyData.tuple [prD x.1, prD x.2] := by
      intro p l
      induction l generalizing p with
      | nil => rfl
      | cons q l ih =>
        rw [List.map_cons, List.zipWith_cons_cons, ih q]
        rfl
    exact key p l
theorem next_lt : ∀ {l : List P}, SS l → ∀ x ∈ l.zip (l.drop 1), ltP x.1 x.2
  | [], _, x, h => by cases h
  | [p], _, x, h => by cases h
  | p :: q :: l, hs, x, h => by
    obtain ⟨h1, h2⟩ := List.pairwise_cons.mp hs
    have h : x ∈ (p, q) :: (q :: l).zip l := h
    rcases List.mem_cons.mp h with rfl | h
    · exact h1 q List.mem_cons_self
    · exact next_lt h2 x h
theorem cut_tail (xs : List D) : cutD xs (some 1) none = xs.drop 1 := by
  unfold cutD
  cases xs with
  | nil => rfl
  | cons x xs =>
    have h1 : HT.sIx (x :: xs).length 0 (some 1) = 1 := by
      show HT.sIx (xs.length + 1) 0 (some 1) = 1
      simp only [HT.sIx]
      have : (1 : Int) ≤ (xs.length : Int) + 1 := by omega
      first | rfl | omega | (simp; try omega)
    have h2 : HT.sIx (x :: xs).length (x :: xs).length none = (x :: xs).length := rfl
    rw [h1, h2]
    exact List.take_of_length_le (by rw [List.length_drop]; exact Nat.le_refl _)
/-! ### comprehensions with two names -/
theorem dLc_two {α : Type} {e1 e2 : α → D} {i j : Nat} {ρ : En} {fi : DI} {ft : DT} {fe : DE} {ds : List D} (p : α → Bool) (k : α → D) (xs : List α) (h1 : fi ρ = some (ds, ρ)) (hd : ds = xs.map fun x => .tuple [e1 x, e2 x]) (hl : xs.length ≤ 16777216)
    (ht : ∀ x ∈ xs, ft ((ρ.with i (e1 x)).with j (e2 x)) = some (p x, (ρ.with i (e1 x)).with j (e2 x)))
    (h : ∀ x ∈ xs, p x = true → fe ((ρ.with i (e1 x)).with j (e2 x)) = some (.sh (k x), (ρ.with i (e1 x)).with j (e2 x)) ∨ fe ((ρ.with i (e1 x)).with j (e2 x)) = some (.fr (k x), (ρ.with i (e1 x)).with j (e2 x)))
    (hi : decide (i < ρ.sl.length) = true := by rfl) (hj : decide (j < ρ.sl.length) = true := by rfl) (hij : i ≠ j := by decide) (hc : (ρ.cup && (i == 0 || j == 0)) = false := by rfl) :
    dLc fi (gTup 2 (gCons (gN i) (gCons (gN j) gNil))) ft fe [i, j] ρ = some (.fr (.list ((xs.filter p).map k)), ρ) := by
  have hi : i < ρ.sl.length := of_decide_eq_true hi
  have hj : j < ρ.sl.length := of_decide_eq_true hj
  have hci : ¬ (ρ.cup = true ∧ i = 0) := fun z => by rw [z.1, z.2] at hc; cases hc
  have hcj : ¬ (ρ.cup = true ∧ j = 0) := fun z => by rw [z.1, z.2] at hc; cases i <;> cases hc
  have hc' : ¬ (ρ.cup = true ∧ 0 ∈ [i, j]) := fun z => by
    have := z.2
    simp only [List.mem_cons, List.not_mem_nil, or_false] at this
    rcases this with y | y
    · exact hci ⟨z.1, y.symm⟩
    · exact hcj ⟨z.1, y.symm⟩
  have w1 : ∀ a b, ((ρ.with i a).with j b).wipe [i, j] = some ⟨ρ.cup, (ρ.sl.set j none).set i none⟩ := fun a b => by
    unfold En.wipe En.with
    rw [if_neg hc']
    simp only [wipeS, List.set_set, Option.some.injEq, En.mk.injEq, true_and]
    rw [List.set_comm _ _ hij, List.set_set, List.set_comm _ _ (Ne.symm hij)]
  refine dLc_map (E := ⟨ρ.cup, (ρ.sl.set j none).set i none⟩) (emb := fun x => .tuple [e1 x, e2 x]) p k xs h1 hd hl (by unfold En.wipe; rw [if_neg hc']; rfl) (fun x hx => ⟨(ρ.with i (e1 x)).with j (e2 x), (ρ.with i (e1 x)).with j (e2 x), ?_, ht x hx, fun hp => ?_, fun _ => w1 _ _⟩) ?_
  · show (gN i (e1 x) _).bind (fun ρ1 => (gN j (e2 x) ρ1).bind _) = _
    unfold gN En.set
    have n1 : ¬ ((ρ.cup = true ∧ i = 0) ∨ ¬ i < ((ρ.sl.set j none).set i none).length) := fun z => z.elim hci fun y => y (by rw [List.length_set, List.length_set]; exact hi)
    rw [if_neg n1, Option.bind_some]
    have n2 : ¬ ((ρ.cup = true ∧ j = 0) ∨ ¬ j < (((ρ.sl.set j none).set i none).set i (some (Sl.sh (e1 x)))).length) := fun z => z.elim hcj fun y => y (by simp only [List.length_set]; exact hj)
    rw [if_neg n2, Option.bind_some]
    show some (⟨ρ.cup, ((((ρ.sl.set j none).set i none).set i (some (Sl.sh (e1 x)))).set j (some (Sl.sh (e2 x))))⟩ : En) = some ⟨ρ.cup, (ρ.sl.set i (some (Sl.sh (e1 x)))).set j (some (Sl.sh (e2 x)))⟩
    congr 2
    rw [List.set_set, List.set_comm _ _ (Ne.symm hij), List.set_set]
  · rcases h x hx hp with e | e
    · exact ⟨_, _, _, e, rfl, w1 _ _⟩
    · exact ⟨_, _, _, e, rfl, w1 _ _⟩
  · have ei : ρ.sl[i]? = some ρ.sl[i] := List.getElem?_eq_getElem hi
    have ej : ρ.sl[j]? = some ρ.sl[j] := List.getElem?_eq_getElem hj
    show (⟨ρ.cup, _⟩ : En) = ρ
    simp only [restoreS, ei, ej, Option.getD_some]
    have : ((((ρ.sl.set j none).set i none).set j ρ.sl[j]).set i ρ.sl[i]) = ρ.sl := by
      rw [List.set_comm none ρ.sl[j] hij, List.set_set, List.set_set, List.set_getElem_self, List.set_getElem_self]
    rw [this]
/-- the pairs of a floor, without a test -/
theorem dLc_prs {i j : Nat} {ρ : En} {fi : DI} {fe : DE} {ds : List D} (k : P → D) (l : List P) (h1 : fi ρ = some (ds, ρ)) (hd : ds = l.map prD) (hl : l.length ≤ 16777216)
    (h : ∀ x ∈ l, fe ((ρ.with i (.int x.1)).with j (.int x.2)) = some (.sh (k x), (ρ.with i (.int x.1)).with j (.int x.2)))
    (hi : decide (i < ρ.sl.length) = true := by rfl) (hj : decide (j < ρ.sl.length) = true := by rfl) (hij : i ≠ j := by decide) (hc : (ρ.cup && (i == 0 || j == 0)) = false := by rfl) :
    dLc fi (gTup 2 (gCons (gN i) (gCons (gN j) gNil))) dYes fe [i, j] ρ = some (.fr (.list (l.map k)), ρ) := by
  have := dLc_two (e1 := fun x : P => .int x.1) (e2 := fun x : P => .int x.2) (ft := dYes) (fe := fe) (fun _ => true) k l h1 hd hl (fun _ _ => rfl) (fun x hx _ => .inl (h x hx)) hi hj hij hc
  have e : l.filter (fun _ => true) = l := List.filter_eq_self.mpr fun _ _ => rfl
  rwa [e] at this
/-- a loop that goes on from state to state -/
theorem dFor_thr {S : Type} (E : S → En) (I : S → Prop) {fi : DI} {tg : DG} {body : DS} {vs : List Nat} {ds : List D} {s0 : S} (h1 : fi (E s0) = some (ds, E s0)) (i0 : I s0) (h : ∀ d ∈ ds, ∀ s, I s → ∃ s', turnOf tg body vs d (E s) = some (E s') ∧ I s') : ∃ s', dFor fi tg body vs (E s0) = some (.nx (E s')) ∧ I s' := by
  have key : ∀ (ds : List D) (s : S), I s → (∀ d ∈ ds, ∀ s, I s → ∃ s', turnOf tg body vs d (E s) = some (E s') ∧ I s') → ∃ s', forGo tg body vs ds (E s) = some (.nx (E s')) ∧ I s' := by
    intro ds
    induction ds with
    | nil => exact fun s hs _ => ⟨s, rfl, hs⟩
    | cons d ds ih =>
      intro s hs hh
      obtain ⟨s1, e1, i1⟩ := hh d List.mem_cons_self s hs
      obtain ⟨s2, e2, i2⟩ := ih s1 i1 fun d hd => hh d (List.mem_cons_of_mem _ hd)
      exact ⟨s2, by rw [forGo_turn e1]; exact e2, i2⟩
  obtain ⟨s', e, i'⟩ := key ds s0 i0 h
  exact ⟨s', by rw [dFor_from h1]; exact e, i'⟩
/-! ### for the walks -/
theorem ne_cells_nil (l : List P) : cNe (cellsD l) (.list []) = some (!decide (l = [])) := ne_cells l []
theorem eq_cells_nil (l : List P) : cEq (cellsD l) (.list []) = some (decide (l = [])) := eq_cells l []
theorem ne_floor_nil (l : List P) : cNe (floorD l) (.tuple []) = some (!decide (l = [])) := ne_floor l []
theorem eq_floor_nil (l : List P) : cEq (floorD l) (.tuple []) = some (decide (l = [])) := eq_floor l []
theorem tru_floor (l : List P) : dTru (floorD l) = some (!l.isEmpty) := by cases l <;> rfl
theorem tru_cells (l : List P) : dTru (cellsD l) = some (!l.isEmpty) := by cases l <;> rfl
theorem isTup_floor (l : List P) : isTup (floorD l) = true := rfl
theorem isTup_pr (p : P) : isTup (prD p) = true := rfl
theorem isLst_cells (l : List P) : isLst (cellsD l) = true := rfl
theorem isLst_floor (l : List P) : isLst (floorD l) = false := rfl
theorem len_pr (p : P) : bLen (prD p) = some (.sh (.int 2)) := rfl
theorem prD_mk (a b : Int) : prD (a, b) = .tuple [.int a, .int b] := rfl
theorem max_pr (p : P) : bMaxA (prD p) = some (.sh (.int (max p.1 p.2))) := by
  obtain ⟨a, b⟩ := p
  show bMax (.list ([a, b].map .int)) = _
  simp only [bMax, ints?_map]
  first | rfl | (congr 3; simp [imax]; omega) | skip
end PD
set_option Elab.async false
set_option linter.all false
set_option maxRecDepth 100000
set_option maxHeartbeats 4000000
/-! PD24: what a dict of lists comes to; counts of cells by blocks. -/
namespace PD
set_option autoImplicit false
open PySem PySem.Spec L2
open PyProof.Rows hiding St
def kP (p : P) : List Int := [p.1, p.2]
theorem kP_inj {p q : P} (h : kP p = kP q) : p = q := by
  obtain ⟨a, b⟩ := p
  obtain ⟨c, d⟩ := q
  unfold kP at h
  simp only [List.cons.injEq, and_true] at h
  rw [h.1, h.2]
theorem kP_tup (p : P) : PyData.tuple ((kP p).map .int) = prD p := rfl
theorem tOf_pr (p : P) : tOf (prD p) = some (kP p) := tOf_tup (kP p)
def grpTurn (tg : DG) (fe : DE) (j : Nat) (fk fv : DE) (vs : List Nat) (d : D) (ρ : En) : Option (List Int × D × En) := (tg d ρ).bind fun ρ1 => (fe ρ1).bind fun x => match x.1 with
    | .sh dk => (x.2.set j (.sh dk)).bind fun ρ2 => (fk ρ2).bind fun y => (y.1.get y.2).bind fun d1 => (tOf d1).bind fun k => (fv y.2).bind fun z => (z.1.give z.2).bind fun u =>
      (u.2.wipe vs).map fun ρ3 => (k, u.1, ρ3)
    | _ => none
theorem grpGo_turn {tg : DG} {fe : DE} {j : Nat} {fk fv : DE} {vs : List Nat} {d v : D} {ds : List D} {kl : List (List Int × List D)} {ρ ρ' : En} {k : List Int} (h : grpTurn tg fe j fk fv vs d ρ = some (k, v, ρ')) :
    grpGo tg fe j fk fv vs (d :: ds) kl ρ = grpGo tg fe j fk fv vs ds (grpApp (grpEns kl k) k v) ρ' := by
  obtain ⟨ρ1, e1, h⟩ := Option.bind_eq_some_iff.mp h
  obtain ⟨⟨w, ρ2⟩, e2, h⟩ := Option.bind_eq_some_iff.mp h
  cases w with
  | fr _ => cases h
  | vr _ => cases h
  | sh dk =>
    obtain ⟨ρ3, e3, h⟩ := Option.bind_eq_some_iff.mp h
    obtain ⟨y, e4, h⟩ := Option.bind_eq_some_iff.mp h
    obtain ⟨d1, e5, h⟩ := Option.bind_eq_some_iff.mp h
    obtain ⟨k', e6, h⟩ := Option.bind_eq_some_iff.mp h
    obtain ⟨z, e7, h⟩ := Option.bind_eq_some_iff.mp h
    obtain ⟨u, e8, h⟩ := Option.bind_eq_some_iff.mp h
    obtain ⟨ρ4, e9, h⟩ := Option.map_eq_some_iff.mp h
    cases h
    rw [grpGo, e1, Option.bind_some, e2, Option.bind_some]
    simp only
    rw [e3, Option.bind_some, e4, Option.bind_some, e5, Option.bind_some, e6, Option.bind_some, e7, Option.bind_some, e8, Option.bind_some, e9, Option.bind_some]
section
variable {α : Type}
/-- the groups as they stand behind ys -/
def grpOf (f : α → P) (val : α → D) (ys : List α) (hs : List P) : List (List Int × List D) := hs.map fun h => (kP h, (ys.filter fun x => decide (f x = h)).map val)
structure GrpOk (f : α → P) (ys : List α) (hs : List P) : Prop where
  nd : hs.Nodup
  mem : ∀ h, h ∈ hs ↔ ∃ x ∈ ys, f x = h
theorem grp_step {f : α → P} {val : α → D} {ys : List α} {hs : List P} (ok : GrpOk f ys hs) (x : α) :
    ∃ hs', grpApp (grpEns (grpOf f val ys hs) (kP (f x))) (kP (f x)) (val x) = grpOf f val (ys ++ [x]) hs' ∧ GrpOk f (ys ++ [x]) hs' := by
  have fin : ∀ hs' : List P, grpEns (grpOf f val ys hs) (kP (f x)) = grpOf f val ys hs' → grpApp (grpEns (grpOf f val ys hs) (kP (f x))) (kP (f x)) (val x) = grpOf f val (ys ++ [x]) hs' := fun hs' e => by
    rw [e]
    unfold grpApp grpOf
    rw [List.map_map]
    refine List.map_congr_left fun h _ => ?_
    show (if kP h = kP (f x) then _ else _) = _
    by_cases z : f x = h
    · subst z
      rw [if_pos rfl]
      simp
    · rw [if_neg fun y => z (kP_inj y).symm]
      simp [z]
  by_cases m : f x ∈ hs
  · refine ⟨hs, fin hs (grpEns_in ⟨_, List.mem_map_of_mem m, rfl⟩), ok.nd, fun h => ?_⟩
    rw [ok.mem]
    constructor
    · rintro ⟨y, hy, e⟩
      exact ⟨y, List.mem_append_left _ hy, e⟩
    · rintro ⟨y, hy, e⟩
      rcases List.mem_append.mp hy with hy | hy
      · exact ⟨y, hy, e⟩
      · rw [List.mem_singleton] at hy
        subst hy
        exact e ▸ (ok.mem _).mp m
  · refine ⟨hs ++ [f x], fin _ ?_, ?_, fun h => ?_⟩
    · rw [grpEns_out fun q hq e => ?_]
      · unfold grpOf
        rw [List.map_append, List.map_singleton]
        congr 3
        rw [List.filter_eq_nil_iff.mpr fun y hy => ?_]
        · rfl
        · rw [decide_eq_true_iff]
          exact fun z => m ((ok.mem _).mpr ⟨y, hy, z⟩)
      · unfold grpOf at hq
        obtain ⟨h, mh, rfl⟩ := List.mem_map.mp hq
        exact m (kP_inj e ▸ mh)
    · exact List.nodup_append.mpr ⟨ok.nd, by simp, fun a ha b hb e => by
        rw [List.mem_singleton] at hb
        subst hb e
        exact m ha⟩
    · rw [List.mem_append, ok.mem, List.mem_singleton]
      constructor
      · rintro (⟨y, hy, e⟩ | rfl)
        · exact ⟨y, List.mem_append_left _ hy, e⟩
        · exact ⟨x, by simp, rfl⟩
      · rintro ⟨y, hy, e⟩
        rcases List.mem_append.mp hy with hy | hy
        · exact .inl ⟨y, hy, e⟩
        · rw [List.mem_singleton] at hy
          subst hy
          exact .inr e.symm
theorem grpGo_all {emb : α → D} {f : α → P} {val : α → D} {tg : DG} {fe : DE} {j : Nat} {fk fv : DE} {vs : List Nat} {E : En} : ∀ (xs ys : List α) (hs : List P), GrpOk f ys hs → (∀ x ∈ xs, grpTurn tg fe j fk fv vs (emb x) E = some (kP (f x), val x, E)) →
    ∃ hs', grpGo tg fe j fk fv vs (xs.map emb) (grpOf f val ys hs) E = some (grpOf f val (ys ++ xs) hs', E) ∧ GrpOk f (ys ++ xs) hs'
  | [], ys, hs, ok, _ => ⟨hs, by rw [List.append_nil]; rfl, by rw [List.append_nil]; exact ok⟩
  | x :: xs, ys, hs, ok, h => by
    obtain ⟨hs1, e1, ok1⟩ := grp_step (val := val) ok x
    obtain ⟨hs2, e2, ok2⟩ := grpGo_all (emb := emb) (val := val) xs (ys ++ [x]) hs1 ok1 fun y hy => h y (List.mem_cons_of_mem _ hy)
    have ea : ys ++ x :: xs = ys ++ [x] ++ xs := by simp
    rw [ea]
    exact ⟨hs2, by rw [List.map_cons, grpGo_turn (h x List.mem_cons_self), e1]; exact e2, ok2⟩
theorem dGrp_at {emb : α → D} {f : α → P} {val : α → D} {i : Nat} {fi : DI} {tg : DG} {fe : DE} {j : Nat} {fk fv : DE} {vs : List Nat} {ρ ρw E : En} (xs : List α) (hw : ρ.wipe [i] = some ρw) (h1 : fi ρw = some (xs.map emb, E)) (hl : xs.length ≤ 16777216)
    (ht : ∀ x ∈ xs, grpTurn tg fe j fk fv vs (emb x) E = some (kP (f x), val x, E)) (hi : decide (i < ρw.sl.length) = true := by rfl) :
    ∃ hs, GrpOk f xs hs ∧ dGrp i fi tg fe j fk fv vs ρ = (E.set i (.own (tD (hs.map fun h => (prD h, .list ((xs.filter fun x => decide (f x = h)).map val)))))).map .nx := by
  obtain ⟨hs, e, ok⟩ := grpGo_all (emb := emb) (val := val) xs [] [] ⟨by simp, by simp⟩ ht
  rw [List.nil_append] at ok
  refine ⟨hs, ok, ?_⟩
  unfold dGrp
  rw [hw, Option.bind_some, if_pos (of_decide_eq_true hi), h1, Option.bind_some]
  simp only
  rw [if_pos (by rw [List.length_map]; exact hl)]
  have e : grpGo tg fe j fk fv vs (xs.map emb) [] E = some (grpOf f val xs hs, E) := e
  rw [e, Option.bind_some]
  simp only
  have : (grpOf f val xs hs).map (fun q => (PyData.tuple (q.1.map .int), PyData.list q.2)) = hs.map fun h => (prD h, PyData.list ((xs.filter fun x => decide (f x = h)).map val)) := by
    unfold grpOf
    rw [List.map_map]
    rfl
  rw [this]
end
/-! ### looking up -/
theorem tLook_map {g : P → D} (p : P) : ∀ {hs : List P}, p ∈ hs → tLook (hs.map fun h => (prD h, g h)) (kP p) = some (g p)
  | q :: hs, h => by
    rw [List.map_cons, tLook, tOf_pr]
    by_cases e : q = p
    · subst e; rw [if_pos rfl]
    · rw [if_neg fun z => e (kP_inj (Option.some.inj z))]
      rcases List.mem_cons.mp h with rfl | h
      · exact absurd rfl e
      · exact tLook_map p h
theorem tLook_none {g : P → D} (p : P) : ∀ {hs : List P}, p ∉ hs → tLook (hs.map fun h => (prD h, g h)) (kP p) = none
  | [], _ => rfl
  | q :: hs, h => by
    rw [List.map_cons, tLook, tOf_pr, if_neg fun z => h (by rw [kP_inj (Option.some.inj z)]; exact List.mem_cons_self)]
    exact tLook_none p fun m => h (List.mem_cons_of_mem _ m)
theorem ix_tD {kvs : List (D × D)} {p : P} {d : D} (h : tLook kvs (kP p) = some d) : bIx (tD kvs) (prD p) = some (.sh d) := by
  have : bIx (tD kvs) (prD p) = (tOf (prD p)).bind fun y => (tLook kvs y).map W.sh := rfl
  rw [this, tOf_pr, Option.bind_some, h]
  rfl
/-- an item of a dict, or what is told for none -/
theorem dAt_some {kvs : List (D × D)} {p : P} {d : D} (h : tLook kvs (kP p) = some d) : dAt true (tD kvs) (prD p) = some (some d) := by
  have : dAt true (tD kvs) (prD p) = (tOf (prD p)).map fun k => tLook kvs k := rfl
  rw [this, tOf_pr, Option.map_some, h]
theorem dAt_none {kvs : List (D × D)} {p : P} (h : tLook kvs (kP p) = none) : dAt true (tD kvs) (prD p) = some none := by
  have : dAt true (tD kvs) (prD p) = (tOf (prD p)).map fun k => tLook kvs k := rfl
  rw [this, tOf_pr, Option.map_some, h]
end PD
set_option Elab.async false
set_option linter.all false
set_option maxRecDepth 100000
set_option maxHeartbeats 4000000
/-! PD25: boxes; comprehensions with two fors; loops that put lists together. -/
namespace PD
set_option autoImplicit false
open PySem PySem.Spec L2
open PyProof.Rows hiding St
/-! ### boxes -/
def box (h w : Nat) : List P := (List.range h).flatMap fun (r : Nat) => (List.range w).map fun (c : Nat) => ((r : Int), (c : Int))
theorem mem_box {h w : Nat} {p : P} : p ∈ box h w ↔ (0 ≤ p.1 ∧ p.1 < (h : Int)) ∧ 0 ≤ p.2 ∧ p.2 < (w : Int) := by
  unfold box
  rw [List.mem_flatMap]
  constructor
  · rintro ⟨r, hr, hp⟩
    obtain ⟨c, hc, rfl⟩ := List.mem_map.mp hp
    have hr := List.mem_range.mp hr
    have hc := List.mem_range.mp hc
    exact ⟨⟨by omega, by show (r : Int) < _; omega⟩, by omega, by show (c : Int) < _; omega⟩
  · rintro ⟨⟨h1, h2⟩, h3, h4⟩
    refine ⟨p.1.toNat, List.mem_range.mpr (by omega), List.mem_map.mpr ⟨p.2.toNat, List.mem_range.mpr (by omega), ?_⟩⟩
    rw [Int.toNat_of_nonneg h1, Int.toNat_of_nonneg h3]
theorem ss_row (r : Int) (w : Nat) : SS ((List.range w).map fun (c : Nat) => (r, (c : Int))) := by
  refine List.pairwise_map.mpr (List.Pairwise.imp (R := (· < ·)) (fun {a b} k => ?_) List.pairwise_lt_range)
  exact .inr ⟨rfl, by show (a : Int) < (b : Int); omega⟩
theorem ss_box (h w : Nat) : SS (box h w) := by
  unfold box
  induction h with
  | zero => exact List.Pairwise.nil
  | succ n ih =>
    rw [List.range_succ, List.flatMap_append]
    refine List.pairwise_append.mpr ⟨ih, by simpa using ss_row (n : Int) w, fun a ha b hb => ?_⟩
    obtain ⟨r, hr, ha⟩ := List.mem_flatMap.mp ha
    obtain ⟨c, hc, rfl⟩ := List.mem_map.mp ha
    simp only [List.flatMap_cons, List.flatMap_nil, List.append_nil] at hb
    obtain ⟨c', hc', rfl⟩ := List.mem_map.mp hb
    have := List.mem_range.mp hr
    unfold ltP
    simp only
    omega
theorem len_box (h w : Nat) : (box h w).length = h * w := by
  unfold box
  rw [List.length_flatMap]
  simp only [List.length_map, List.length_range]
  induction h with
  | zero => simp
  | succ n ih => rw [List.range_succ, List.map_append, List.sum_append, ih, Nat.succ_mul]; simp
theorem box_succ (h w : Nat) : box (h + 1) w = box h w ++ (List.range w).map fun (c : Nat) => ((h : Int), (c : Int)) := by
  unfold box
  rw [List.range_succ, List.flatMap_append]
  simp
/-! ### two fors -/
section
variable {α β : Type} {emb : α → D} {emb1 : β → D} {tg tg1 : DG} {ft ft1 : DT} {fi fi1 : DI} {fe : DE} {vs vs1 : List Nat} {E : En}
theorem lc2Go_map (p : α → Bool) (ys : α → List β) (p1 : α → β → Bool) (k : α → β → D) : ∀ (xs : List α) (acc : List D), (∀ x ∈ xs, ∃ ρ1 ρ2, tg (emb x) E = some ρ1 ∧ ft ρ1 = some (p x, ρ2) ∧ (p x = false → ρ2.wipe vs = some E) ∧
      (p x = true → ∃ ρ3 E1, fi1 ρ2 = some ((ys x).map emb1, ρ3) ∧ ρ3.wipe vs1 = some E1 ∧ E1.wipe vs = some E ∧ ∀ y ∈ ys x, ∃ ρ4 ρ5, tg1 (emb1 y) E1 = some ρ4 ∧ ft1 ρ4 = some (p1 x y, ρ5) ∧
        (p1 x y = true → ∃ w ρ6 ρ7, fe ρ5 = some (w, ρ6) ∧ w.give ρ6 = some (k x y, ρ7) ∧ ρ7.wipe vs1 = some E1) ∧ (p1 x y = false → ρ5.wipe vs1 = some E1))) →
    lc2Go tg ft fi1 tg1 ft1 fe vs vs1 (xs.map emb) acc E = some (acc ++ (xs.filter p).flatMap fun x => ((ys x).filter (p1 x)).map (k x), E)
  | [], acc, _ => by rw [List.map_nil, lc2Go]; simp
  | x :: xs, acc, h => by
    obtain ⟨ρ1, ρ2, e1, e2, h1, h2⟩ := h x List.mem_cons_self
    have ih := fun a => lc2Go_map p ys p1 k xs a fun y hy => h y (List.mem_cons_of_mem _ hy)
    rw [List.map_cons, lc2Go, e1, Option.bind_some, e2, Option.bind_some]
    cases hp : p x with
    | false =>
      rw [if_neg (show ¬ (false = true) from Bool.false_ne_true), h1 hp, Option.bind_some, ih, List.filter_cons_of_neg (by rw [hp]; decide)]
    | true =>
      obtain ⟨ρ3, E1, e3, e4, e5, h3⟩ := h2 hp
      rw [if_pos rfl, e3, Option.bind_some, e4, Option.bind_some, lcGo_map (p1 x) (k x) (ys x) acc fun y hy => by
        obtain ⟨ρ4, ρ5, z1, z2, z3, z4⟩ := h3 y hy
        exact ⟨ρ4, ρ5, z1, z2, z3, z4⟩, Option.bind_some]
      simp only
      rw [e5, Option.bind_some, ih, List.filter_cons_of_pos hp, List.flatMap_cons, List.append_assoc]
theorem dLc2_map {ρ ρ0 ρe : En} (p : α → Bool) (ys : α → List β) (p1 : α → β → Bool) (k : α → β → D) (xs : List α) (h1 : fi ρ = some (xs.map emb, ρ0)) (hw : ρ0.wipe vs = some E) (hl : ((xs.filter p).flatMap fun x => ((ys x).filter (p1 x)).map (k x)).length ≤ 16777216)
    (h : ∀ x ∈ xs, ∃ ρ1 ρ2, tg (emb x) E = some ρ1 ∧ ft ρ1 = some (p x, ρ2) ∧ (p x = false → ρ2.wipe vs = some E) ∧
      (p x = true → ∃ ρ3 E1, fi1 ρ2 = some ((ys x).map emb1, ρ3) ∧ ρ3.wipe vs1 = some E1 ∧ E1.wipe vs = some E ∧ ∀ y ∈ ys x, ∃ ρ4 ρ5, tg1 (emb1 y) E1 = some ρ4 ∧ ft1 ρ4 = some (p1 x y, ρ5) ∧
        (p1 x y = true → ∃ w ρ6 ρ7, fe ρ5 = some (w, ρ6) ∧ w.give ρ6 = some (k x y, ρ7) ∧ ρ7.wipe vs1 = some E1) ∧ (p1 x y = false → ρ5.wipe vs1 = some E1)))
    (he : ({ E with sl := restoreS ρ0.sl E.sl vs } : En) = ρe) :
    dLc2 fi tg ft fi1 tg1 ft1 fe vs vs1 ρ = some (.fr (.list ((xs.filter p).flatMap fun x => ((ys x).filter (p1 x)).map (k x))), ρe) := by
  unfold dLc2
  rw [h1, Option.bind_some]
  simp only
  rw [hw, Option.bind_some, lc2Go_map p ys p1 k xs [] h, Option.bind_some]
  simp only [List.nil_append]
  rw [if_pos hl, he]
end
theorem filter_true {α : Type} (l : List α) : l.filter (fun _ => true) = l := List.filter_eq_self.mpr fun _ _ => rfl
theorem rg_nat {fa : DE} {ρ ρ1 : En} {n : Nat} (h : fa ρ = some (.sh (.int (n : Int)), ρ1)) (hn : n < 4611686018427387904) : dRg1 fa ρ = some ((List.range n).map (fun (i : Nat) => PyData.int (i : Int)), ρ1) := by rw [rg1_at h hn, rgD_nat]
/-- a loop over places: put together -/
theorem flat_take {α β : Type} {f : α → List β} {xs : List α} {i : Nat} {x : α} (h : xs[i]? = some x) : (xs.take (i + 1)).flatMap f = (xs.take i).flatMap f ++ f x := by
  rw [List.take_add_one, h, List.flatMap_append]
  simp
theorem flat_len {α β : Type} {f : α → List β} {k : Nat} : ∀ {xs : List α}, (∀ x ∈ xs, (f x).length ≤ k) → (xs.flatMap f).length ≤ xs.length * k
  | [], _ => by simp
  | x :: xs, h => by
    have := flat_len (xs := xs) fun y hy => h y (List.mem_cons_of_mem _ hy)
    have h1 := h x List.mem_cons_self
    rw [List.flatMap_cons, List.length_append, List.length_cons, Nat.succ_mul]
    omega
end PD
set_option Elab.async false
set_option linter.all false
set_option maxRecDepth 100000
set_option maxHeartbeats 4000000
/-! PD26: loops by what is behind; tallies by cells. -/
namespace PD
set_option autoImplicit false
open PySem PySem.Spec L2
open PyProof.Rows hiding St
section
variable {α : Type} {emb : α → D} {tg : DG} {body : DS} {vs : List Nat}
theorem forGo_pre {R : List α → En → Prop} {l : List α} (h : ∀ ys x zs, l = ys ++ x :: zs → ∀ ρ, R ys ρ → ∃ ρ', turnOf tg body vs (emb x) ρ = some ρ' ∧ R (ys ++ [x]) ρ') {ρ0 : En} (r0 : R [] ρ0) :
    ∃ ρ', forGo tg body vs (l.map emb) ρ0 = some (.nx ρ') ∧ R l ρ' := by
  have key : ∀ (zs ys : List α) (ρ : En), l = ys ++ zs → R ys ρ → ∃ ρ', forGo tg body vs (zs.map emb) ρ = some (.nx ρ') ∧ R l ρ' := by
    intro zs
    induction zs with
    | nil =>
      intro ys ρ e r
      rw [List.append_nil] at e
      subst e
      exact ⟨ρ, rfl, r⟩
    | cons x zs ih =>
      intro ys ρ e r
      obtain ⟨ρ1, e1, r1⟩ := h ys x zs e ρ r
      obtain ⟨ρ2, e2, r2⟩ := ih (ys ++ [x]) ρ1 (by rw [e]; simp) r1
      exact ⟨ρ2, by rw [List.map_cons, forGo_turn e1]; exact e2, r2⟩
  exact key l [] ρ0 rfl r0
theorem dFor_pre {fi : DI} {ρ ρ0 : En} {R : List α → En → Prop} {l : List α} (h1 : fi ρ = some (l.map emb, ρ0)) (r0 : R [] ρ0) (h : ∀ ys x zs, l = ys ++ x :: zs → ∀ ρ, R ys ρ → ∃ ρ', turnOf tg body vs (emb x) ρ = some ρ' ∧ R (ys ++ [x]) ρ') :
    ∃ ρ', dFor fi tg body vs ρ = some (.nx ρ') ∧ R l ρ' := by
  rw [dFor_from h1]
  exact forGo_pre h r0
end
/-! ### tallies -/
section
variable {α : Type}
def sumW (f : α → P) (w : α → Int) (ys : List α) (q : P) : Int := ((ys.filter fun x => decide (f x = q)).map w).sum
def tally (f : α → P) (w : α → Int) (ys : List α) (hs : List P) : List (D × D) := hs.map fun h => (prD h, .int (sumW f w ys h))
theorem sumW_add {f : α → P} {w : α → Int} (ys : List α) (x : α) (q : P) : sumW f w (ys ++ [x]) q = sumW f w ys q + if f x = q then w x else 0 := by
  unfold sumW
  rw [List.filter_append, List.map_append, List.sum_append]
  by_cases h : f x = q <;> simp [h]
theorem sumW_none {f : α → P} {w : α → Int} {ys : List α} {q : P} (h : ∀ x ∈ ys, f x ≠ q) : sumW f w ys q = 0 := by
  unfold sumW
  rw [List.filter_eq_nil_iff.mpr fun x hx => by rw [decide_eq_true_iff]; exact h x hx]
  rfl
theorem sumW_one {f : α → P} (ys : List α) (q : P) : sumW f (fun _ => 1) ys q = ((ys.filter fun x => decide (f x = q)).length : Int) := by
  unfold sumW
  induction (ys.filter fun x => decide (f x = q)) with
  | nil => rfl
  | cons a l ih => rw [List.map_cons, List.sum_cons, ih, List.length_cons]; omega
/-- what is told at a place -/
theorem tally_look {f : α → P} {w : α → Int} {ys : List α} {hs : List P} (ok : GrpOk f ys hs) (q : P) : ((tLook (tally f w ys hs) (kP q) = some (.int (sumW f w ys q)) ∧ q ∈ hs) ∨ (tLook (tally f w ys hs) (kP q) = none ∧ q ∉ hs ∧ sumW f w ys q = 0)) := by
  by_cases m : q ∈ hs
  · exact .inl ⟨tLook_map (g := fun h => PyData.int (sumW f w ys h)) q m, m⟩
  · exact .inr ⟨tLook_none (g := fun h => PyData.int (sumW f w ys h)) q m, m, sumW_none fun x hx e => m ((ok.mem q).mpr ⟨x, hx, e⟩)⟩
/-- d.get(q, 0) -/
theorem tally_get {f : α → P} {w : α → Int} {ys : List α} {hs : List P} (ok : GrpOk f ys hs) (q : P) : ∃ o, dAt true (tD (tally f w ys hs)) (prD q) = some o ∧ ((o = some (.int (sumW f w ys q))) ∨ (o = none ∧ sumW f w ys q = 0)) := by
  rcases tally_look (w := w) ok q with ⟨e, _⟩ | ⟨e, _, z⟩
  · exact ⟨_, dAt_some e, .inl rfl⟩
  · exact ⟨_, dAt_none e, .inr ⟨rfl, z⟩⟩
theorem any_key {g : P → D} {q : P} {hs : List P} : (hs.map fun h => (prD h, g h)).any (fun p => decide (tOf p.1 = some (kP q))) = decide (q ∈ hs) := by
  induction hs with
  | nil => simp
  | cons h hs ih =>
    rw [List.map_cons, List.any_cons, ih]
    have : (tOf (prD h, g h).1 = some (kP q)) ↔ h = q := by
      show tOf (prD h) = _ ↔ _
      rw [tOf_pr]
      exact ⟨fun z => kP_inj (Option.some.inj z), fun z => by rw [z]⟩
    by_cases e : h = q
    · rw [decide_eq_true (this.mpr e)]; simp [e]
    · rw [decide_eq_false (fun z => e (this.mp z))]
      have : ¬ q = h := fun z => e z.symm
      simp [this]
theorem tally_step {f : α → P} {w : α → Int} {ys : List α} {hs : List P} (ok : GrpOk f ys hs) (x : α) :
    ∃ hs', tPut (tally f w ys hs) (kP (f x)) (.int (sumW f w ys (f x) + w x)) = tally f w (ys ++ [x]) hs' ∧ GrpOk f (ys ++ [x]) hs' := by
  by_cases m : f x ∈ hs
  · refine ⟨hs, ?_, ok.nd, fun h => ?_⟩
    · unfold tPut tally
      rw [any_key, decide_eq_true m, if_pos rfl, List.map_map]
      refine List.map_congr_left fun h _ => ?_
      show (if tOf (prD h) = some (kP (f x)) then _ else _) = _
      rw [tOf_pr, sumW_add]
      by_cases e : f x = h
      · subst e; rw [if_pos rfl, if_pos rfl]
      · rw [if_neg fun z => e (kP_inj (Option.some.inj z)).symm, if_neg e, Int.add_zero]
    · rw [ok.mem]
      constructor
      · rintro ⟨y, hy, e⟩
        exact ⟨y, List.mem_append_left _ hy, e⟩
      · rintro ⟨y, hy, e⟩
        rcases List.mem_append.mp hy with hy | hy
        · exact ⟨y, hy, e⟩
        · rw [List.mem_singleton] at hy
          subst hy
          exact e ▸ (ok.mem _).mp m
  · refine ⟨hs ++ [f x], ?_, ?_, fun h => ?_⟩
    · unfold tPut tally
      rw [any_key, decide_eq_false m, if_neg (by decide), List.map_append]
      congr 1
      · refine List.map_congr_left fun h hh => ?_
        rw [sumW_add, if_neg (show ¬ f x = h from fun z => m (z ▸ hh)), Int.add_zero]
      · rw [List.map_singleton, sumW_add, if_pos rfl]
        rfl
    · exact List.nodup_append.mpr ⟨ok.nd, by simp, fun a ha b hb e => by
        rw [List.mem_singleton] at hb
        subst hb e
        exact m ha⟩
    · rw [List.mem_append, ok.mem, List.mem_singleton]
      constructor
      · rintro (⟨y, hy, e⟩ | rfl)
        · exact ⟨y, List.mem_append_left _ hy, e⟩
        · exact ⟨x, by simp, rfl⟩
      · rintro ⟨y, hy, e⟩
        rcases List.mem_append.mp hy with hy | hy
        · exact .inl ⟨y, hy, e⟩
        · rw [List.mem_singleton] at hy
          subst hy
          exact .inr e.symm
theorem tally_len {f : α → P} {w : α → Int} {ys : List α} {hs : List P} (ok : GrpOk f ys hs) : (tally f w ys hs).length ≤ ys.length := by
  unfold tally
  rw [List.length_map]
  have : hs.length ≤ (ys.map f).length := nodup_len ok.nd fun q hq => by
    obtain ⟨x, hx, e⟩ := (ok.mem q).mp hq
    exact List.mem_map.mpr ⟨x, hx, e⟩
  rwa [List.length_map] at this
theorem grp_nil {f : α → P} : GrpOk f ([] : List α) [] := ⟨by simp, by simp⟩
/-- d[q] = n -/
theorem set_tD {kvs : List (D × D)} {q : P} {d : D} (h : kvs.length < 16777216) : sSet (tD kvs) (prD q) d = some (tD (tPut kvs (kP q) d)) := by
  have : sSet (tD kvs) (prD q) d = (tOf (prD q)).bind fun y => if kvs.length < 16777216 then some (tD (tPut kvs y d)) else none := rfl
  rw [this, tOf_pr, Option.bind_some, if_pos h]
end
/-! ### cells that pass -/
theorem with_at {ρ : En} {i : Nat} {d : D} (hi : i < ρ.sl.length) : (ρ.with i d).sl[i]? = some (some (.sh d)) := List.getElem?_set_self hi
theorem lc_cells {i : Nat} {ρ : En} {fi : DI} {ft : DT} {l : List P} (p : P → Bool) (h1 : fi ρ = some (l.map prD, ρ)) (hl : l.length ≤ 16777216) (ht : ∀ x ∈ l, ft (ρ.with i (prD x)) = some (p x, ρ.with i (prD x)))
    (hi : decide (i < ρ.sl.length) = true := by rfl) (hc : (ρ.cup && i == 0) = false := by rfl) : dLc fi (gN i) ft (dVar i) [i] ρ = some (.fr (cellsD (l.filter p)), ρ) :=
  dLc_one (emb := prD) p prD l h1 rfl hl ht (fun x hx _ => .inl (dVar_sh (with_at (of_decide_eq_true hi)))) hi hc
theorem lc_notIn {i : Nat} {ρ : En} {fi : DI} {fb : DE} {l L : List P} (h1 : fi ρ = some (l.map prD, ρ)) (hl : l.length ≤ 16777216) (hb : ∀ x ∈ l, fb (ρ.with i (prD x)) = some (.sh (floorD L), ρ.with i (prD x)))
    (hi : decide (i < ρ.sl.length) = true := by rfl) (hc : (ρ.cup && i == 0) = false := by rfl) : dLc fi (gN i) (dCmpT cNotIn (dVar i) fb) (dVar i) [i] ρ = some (.fr (cellsD (l.filter fun x => !decide (x ∈ L))), ρ) := by
  refine lc_cells _ h1 hl (fun x hx => ?_) hi hc
  unfold dCmpT
  rw [dVar_sh (with_at (of_decide_eq_true hi)), Option.bind_some]
  simp only
  rw [hb x hx, Option.bind_some]
  simp only [get_sh, Option.bind_some, notIn_floor, Option.map_some]
/-- cells that pass a test which changes a state -/
theorem lc_thrT {S : Type} (E : S → En) (I : S → Prop) {i : Nat} {o : Option Sl} {fi : DI} {ft : DT} {l : List P} {s0 : S} (h1 : fi (E s0) = some (l.map prD, E s0)) (hl : l.length ≤ 16777216) (i0 : I s0)
    (h : ∀ p ∈ l, ∀ s, I s → ∃ s' b, ft ((E s).with i (prD p)) = some (b, (E s').with i (prD p)) ∧ I s')
    (hi : ∀ s, (E s).sl[i]? = some o := by intro _; rfl) (hc : ∀ s, ((E s).cup && i == 0) = false := by intro _; rfl) :
    ∃ s' L, dLc fi (gN i) ft (dVar i) [i] (E s0) = some (.fr (cellsD L), E s') ∧ I s' ∧ L.Sublist l := by
  have hi' : ∀ s, i < (E s).sl.length := fun s => (List.getElem?_eq_some_iff.mp (hi s)).1
  have hc' : ∀ s, ¬ ((E s).cup = true ∧ i = 0) := fun s z => by
    have := hc s
    rw [z.1, z.2] at this
    cases this
  have hcw : ∀ s, ¬ ((E s).cup = true ∧ 0 ∈ [i]) := fun s z => hc' s ⟨z.1, (by simpa using z.2 : 0 = i).symm⟩
  have w0 : ∀ s, (E s).wipe [i] = some ⟨(E s).cup, (E s).sl.set i none⟩ := fun s => by unfold En.wipe; rw [if_neg (hcw s)]; rfl
  have w1 : ∀ s d, ((E s).with i d).wipe [i] = some ⟨(E s).cup, (E s).sl.set i none⟩ := fun s d => by
    unfold En.wipe En.with
    rw [if_neg (hcw s)]
    simp only [wipeS, List.set_set]
  obtain ⟨ys, ρ', e, s', L, ei, hI, hL, hS, _⟩ := lcGo_rel (emb := prD) (tg := gN i) (ft := ft) (fe := dVar i) (vs := [i]) (R := fun rest acc ρ => ∃ s L, ρ = ⟨(E s).cup, (E s).sl.set i none⟩ ∧ I s ∧ acc = L.map prD ∧ (L ++ rest).Sublist l ∧ ∀ d ∈ rest, d ∈ l) (fun x xs acc ρ hr => by
    obtain ⟨s, L, rfl, hI, rfl, hS, hm⟩ := hr
    obtain ⟨s', b, e, hI'⟩ := h x (hm x List.mem_cons_self) s hI
    have n1 : ¬ (((E s).cup = true ∧ i = 0) ∨ ¬ i < ((E s).sl.set i none).length) := fun z => z.elim (hc' s) fun k => k (by rw [List.length_set]; exact hi' s)
    refine ⟨(E s).with i (prD x), b, (E s').with i (prD x), ?_, e, fun _ => ?_, fun _ => ?_⟩
    · show (if _ then _ else _) = _
      rw [if_neg n1]
      simp only [List.set_set]
      rfl
    · refine ⟨.sh (prD x), (E s').with i (prD x), prD x, (E s').with i (prD x), _, dVar_sh (with_at (hi' s')), rfl, w1 s' _, s', L ++ [x], rfl, hI', by simp, by rw [List.append_assoc]; exact hS, fun d hd => hm d (List.mem_cons_of_mem _ hd)⟩
    · exact ⟨_, w1 s' _, s', L, rfl, hI', rfl, (List.Sublist.append_left (List.sublist_cons_self x xs) L).trans hS, fun d hd => hm d (List.mem_cons_of_mem _ hd)⟩) l [] ⟨(E s0).cup, (E s0).sl.set i none⟩ ⟨s0, [], rfl, i0, rfl, List.Sublist.refl _, fun d hd => hd⟩
  subst ei hL
  refine ⟨s', L, ?_, hI, by rw [List.append_nil] at hS; exact hS⟩
  unfold dLc
  rw [h1, Option.bind_some]
  simp only
  rw [if_pos (by rw [List.length_map]; exact hl), w0, Option.bind_some, e, Option.map_some]
  congr 3
  show ((E s').sl.set i none).set i (((E s0).sl[i]?).getD none) = (E s').sl
  rw [hi s0, Option.getD_some, set_back (hi s')]
theorem cut_first (xs : List D) : cutD xs none (some 1) = xs.take 1 := by
  unfold cutD
  cases xs with
  | nil => rfl
  | cons x xs =>
    have h1 : HT.sIx (x :: xs).length 0 none = 0 := rfl
    have h2 : HT.sIx (x :: xs).length (x :: xs).length (some 1) = 1 := by
      have := HT.sIx_nat (x :: xs).length (x :: xs).length 1
      rw [show ((1 : Nat) : Int) = 1 from rfl] at this
      rw [this, List.length_cons]
      omega
    rw [h1, h2]
    rfl
theorem cut_first_floor (l : List P) : PyData.tuple (cutD (l.map prD) none (some 1)) = floorD (l.take 1) := by rw [cut_first, floorD, List.map_take]
theorem cut_tail_floor (l : List P) : PyData.tuple (cutD (l.map prD) (some 1) none) = floorD (l.drop 1) := by rw [cut_tail, floorD, List.map_drop]
end PD
set_option Elab.async false
set_option linter.all false
set_option maxRecDepth 100000
set_option maxHeartbeats 4000000
/-! PD27: sorted(set(..)) of few pairs. -/
namespace PD
set_option autoImplicit false
open PySem PySem.Spec L2
open PyProof.Rows hiding St
def undup : List P → List P
  | [] => []
  | p :: l => if p ∈ l then undup l else p :: undup l
theorem mem_undup {q : P} : ∀ {l : List P}, q ∈ undup l ↔ q ∈ l
  | [] => Iff.rfl
  | p :: l => by
    unfold undup
    split
    · rename_i h
      rw [mem_undup, List.mem_cons]
      exact ⟨.inr, fun z => z.elim (fun e => e ▸ h) id⟩
    · rw [List.mem_cons, List.mem_cons, mem_undup]
theorem nodup_undup : ∀ l : List P, (undup l).Nodup
  | [] => .nil
  | p :: l => by
    unfold undup
    split
    · exact nodup_undup l
    · rename_i h
      exact List.nodup_cons.mpr ⟨fun z => h (mem_undup.mp z), nodup_undup l⟩
/-- the ascending cells of a list -/
def sortS (l : List P) : List P := sortPr (undup l)
theorem ss_sortS (l : List P) : SS (sortS l) := ss_sort (nodup_undup l)
theorem mem_sortS {l : List P} {p : P} : p ∈ sortS l ↔ p ∈ l := mem_sort.trans mem_undup
theorem sortS_eq {l m : List P} (k : SS m) (e : ∀ p, p ∈ l ↔ p ∈ m) : sortS l = m := ss_ext (ss_sortS l) k fun p => mem_sortS.trans (e p)
def okSet (ps : List P) : Prop := ps.length < 64 ∧ ∀ p ∈ ps, (0 ≤ p.1 ∧ p.1 < 64) ∧ 0 ≤ p.2 ∧ p.2 < 64
open Classical in
noncomputable def bSortSet : D → Option W
  | .list xs => (prs? xs).bind fun ps => if okSet ps then some (.fr (cellsD (sortS ps))) else none
  | _ => none
theorem sortSet_cells {l : List P} (h : okSet l) : bSortSet (cellsD l) = some (.fr (cellsD (sortS l))) := by
  show ((prs? (l.map prD)).bind fun ps => _) = _
  rw [prs?_map, Option.bind_some, if_pos h]
theorem dts_ks {K : PySem.W.Frag} {F : Rg} {H : Hp} : ∀ {ps : List P} {vs : List V}, Dts K F H (ps.map prD) vs → ∃ ks : List (Addr × List Int), vs = ks.map (fun p => V.ref p.1) ∧ ks.map (·.2) = ps.map kP ∧ ∀ p ∈ ks, SqT K H p.1 (p.2.map V.int)
  | [], _, h => by cases h; exact ⟨[], rfl, rfl, fun p h => nomatch h⟩
  | p :: ps, _, h => by
    rw [List.map_cons] at h
    cases h with
    | cons h t =>
      obtain ⟨a, rfl, h'⟩ := pair_read h
      obtain ⟨ks, rfl, e, k⟩ := dts_ks t
      refine ⟨(a, kP p) :: ks, rfl, by rw [List.map_cons, List.map_cons, e], fun q hq => ?_⟩
      rcases List.mem_cons.mp hq with rfl | hq
      · exact h'
      · exact k q hq
def unk : List Int → P
  | [x, y] => (x, y)
  | _ => (0, 0)
theorem unk_kP (p : P) : unk (kP p) = p := rfl
theorem ks_dts {K : PySem.W.Frag} {F : Rg} {H : Hp} : ∀ {L : List (Addr × List Int)}, (∀ p ∈ L, SqT K H p.1 (p.2.map V.int)) → (∀ p ∈ L, ∃ q, p.2 = kP q) → Dts K F H ((L.map fun p => unk p.2).map prD) (L.map fun p => V.ref p.1)
  | [], _, _ => .nil
  | p :: L, h, k => by
    obtain ⟨q, e⟩ := k p List.mem_cons_self
    have := h p List.mem_cons_self
    rw [e] at this
    refine .cons ?_ (ks_dts (fun r hr => h r (List.mem_cons_of_mem _ hr)) fun r hr => k r (List.mem_cons_of_mem _ hr))
    show Dt K F H (prD (unk p.2)) (.ref p.1)
    rw [e]
    exact .tup this (.cons (.int _) (.cons (.int _) .nil))
section
variable {X : Cx} {a : Expr} {fa : DE} {p1 p2 q pos : Pos}
theorem ped_sortSet (hc : X.calm = true) (hu : X.A.units + 64 < cLine) (hG1 : Gl X "sorted") (hm1 : X.mg "sorted" = none) (hG2 : Gl X "set") (hm2 : X.mg "set" = none) (ha : PED X a fa)
    (he : starEach [a] X.env = (false, eval a X.env) :: starEach [] X.env := by rfl)
    (he2 : starEach [.Call (.Name "set" p2) [a] [] q] X.env = (false, eval (.Call (.Name "set" p2) [a] [] q) X.env) :: starEach [] X.env := by rfl) :
    PED X (.Call (.Name "sorted" p1) [.Call (.Name "set" p2) [a] [] q] [] pos) (dB1 bSortSet fa) := fun g hg => by
  have hs : PE X (.Call (.Name "set" p2) [a] [] q) _ := pe_callTy (cr_setOfT hc hu) hG2 hm2 (by decide +kernel) (pa_cons (ha g hg) pa_nil he) (by decide) (by decide) he
  refine (pe_callB (cr_sortedT hc) hG1 hm1 (by decide +kernel) (pa_cons hs pa_nil he2) (by decide) (by decide) he2).wk fun σ H Q t => ?_
  obtain ⟨F, ρ, r0, w, ρ', e, q⟩ := t
  obtain ⟨⟨x, ρ1⟩, e1, e⟩ := Option.bind_eq_some_iff.mp e
  obtain ⟨da, e3, e⟩ := Option.bind_eq_some_iff.mp e
  obtain ⟨w', e5, e⟩ := Option.map_eq_some_iff.mp e
  cases e
  refine ⟨F, ρ, r0, x, ρ1, e1, fun v H1 F1 pp => ?_⟩
  have r1 := pp.t.post.rel
  have tk := RW.top r1 pp.rw e3
  cases da with
  | list xs =>
    obtain ⟨ps, e6, e5⟩ := Option.bind_eq_some_iff.mp e5
    split at e5
    · rename_i hok
      cases e5
      rw [prs?_some e6] at tk
      obtain ⟨l, vs, rfl, h1, d1⟩ := tk
      obtain ⟨ks, rfl, ek, hk⟩ := dts_ks d1
      have hlen : ks.length = ps.length := by have := congrArg List.length ek; simpa using this
      have kq : ∀ p ∈ ks, ∃ q, p.2 = kP q ∧ q ∈ ps := fun p hp => by
        have : p.2 ∈ ks.map (·.2) := List.mem_map_of_mem hp
        rw [ek] at this
        obtain ⟨q, hq, e⟩ := List.mem_map.mp this
        exact ⟨q, e.symm, hq⟩
      refine ⟨l, ks, rfl, hg ▸ .inl h1, fun p hp => hg ▸ hk p hp, by rw [hlen]; exact hok.1, fun sa L hsa hL1 hL2 => ?_⟩
      have up := upd_kept (o := SetTO X.prog X.w sa L) hsa
      have r2 : Rel g F1 ρ1 σ (upd H1 sa (SetTO X.prog X.w sa L)) := r1.keptAll up
      have hkL : ∀ p ∈ L, SqT g.K (upd H1 sa (SetTO X.prog X.w sa L)) p.1 (p.2.map V.int) := fun p hp => (keeps_new (F := F1) hsa).sqt (hk p (hL1 p hp))
      refine ⟨sa, L, 2, 64, rfl, upd_same, fun p hp => hg ▸ hkL p hp, by decide, fun p hp => ?_, fun L' p pm nd fw pw hp => ?_⟩
      · obtain ⟨q, e, hq⟩ := kq p (hL1 p hp)
        obtain ⟨⟨b1, b2⟩, b3, b4⟩ := hok.2 q hq
        rw [e]
        refine ⟨rfl, fun m hm => ?_⟩
        rcases List.mem_cons.mp hm with rfl | hm
        · exact ⟨b1, b2⟩
        · rw [List.mem_singleton] at hm
          subst hm
          exact ⟨b3, b4⟩
      · have kq' : ∀ p ∈ L', ∃ q, p.2 = kP q ∧ q ∈ ps := fun p hp => kq p (hL1 p (pm.mem_iff.mp hp))
        have eM : L'.map (fun p => unk p.2) = sortS ps := by
          refine perm_sorted_eq (fun _ _ => lePr_anti) (perm_of_nodup ?_ (ss_sortS ps).nodup fun z => ?_) ?_ (ss_sortS ps).le
          · refine List.pairwise_map.mpr ?_
            have nd' := List.pairwise_map.mp nd
            refine List.Pairwise.imp_of_mem (fun {x y} hx hy hne e => ?_) nd'
            obtain ⟨qx, ex, _⟩ := kq' x hx
            obtain ⟨qy, ey, _⟩ := kq' y hy
            rw [ex, ey, unk_kP, unk_kP] at e
            exact hne (by rw [ex, ey, e])
          · rw [mem_sortS, List.mem_map]
            constructor
            · rintro ⟨x, hx, rfl⟩
              obtain ⟨qx, ex, hq⟩ := kq' x hx
              rw [ex, unk_kP]
              exact hq
            · intro hz
              have : kP z ∈ ks.map (·.2) := by rw [ek]; exact List.mem_map_of_mem hz
              obtain ⟨x, hx, ex⟩ := List.mem_map.mp this
              have := hL2 x hx
              obtain ⟨y, hy, ey⟩ := List.mem_map.mp this
              exact ⟨y, pm.mem_iff.mpr hy, by rw [ey, ex, unk_kP]⟩
          · refine List.pairwise_map.mpr (List.Pairwise.imp_of_mem (fun {x y} hx hy hc => ?_) pw)
            obtain ⟨qx, ex, hqx⟩ := kq' x hx
            obtain ⟨qy, ey, hqy⟩ := kq' y hy
            rw [ex, ey] at hc ⊢
            rw [unk_kP, unk_kP]
            have c1 : TS.code 64 (kP qx) = qx.1 * 64 + qx.2 := code_pair qx.1 qx.2
            have c2 : TS.code 64 (kP qy) = qy.1 * 64 + qy.2 := code_pair qy.1 qy.2
            rw [c1, c2] at hc
            have := hok.2 qx hqx
            have := hok.2 qy hqy
            unfold lePr
            omega
        have hd : Dts g.K F1 (upd H1 sa (SetTO X.prog X.w sa L)) ((sortS ps).map prD) (L'.map fun q => V.ref q.1) := by
          rw [← eM]
          exact ks_dts (fun p hp => hkL p (pm.mem_iff.mp hp)) fun p hp => let ⟨q, e, _⟩ := kq' p hp; ⟨q, e⟩
        refine q _ _ F1 (EPo.then r0 pp.t (EPo.then r1 (TPo.keptAll r1 up) (EPo.newObj r2 hp (.inl ⟨_, _, rfl, upd_same, hd.keeps (keeps_new hp)⟩))))
    · cases e5
  | _ => cases e5
end
end PD
set_option Elab.async false
set_option linter.all false
set_option maxRecDepth 100000
set_option maxHeartbeats 4000000
/-! PD28: sorted of a dict of pairs, of lists of nested tuples. -/
namespace PD
set_option autoImplicit false
open PySem PySem.Spec L2
open PyProof.Rows hiding St
section
variable {X : Cx}
theorem call_sortedTD (hcalm : X.calm = true) : CallR X (.builtin "sorted") (fun vs H Q => ∃ (a : Addr) (es : List TE3) (ps : List (Int × Int)), vs = [V.ref a] ∧ Rd H a (tdO a es) ∧ TKeys X.K H es ∧ es.map (·.1) = ps.map kP ∧
    ∀ ys p, Paired (RdP X.K H) ys (sortPr ps) → H p = none → Q (.ref p) (upd H p (.lst ys))) := by
  intro pins s σ H vs us Q I r h
  obtain ⟨a, es, ps, rfl, hd, hk, ek, q⟩ := h
  obtain ⟨u, rfl, ru⟩ := vals1 r
  obtain rfl : u = Value.ref a := ru
  obtain ⟨h1, h2, h3, o, ens, ep, h4, h5, h6, h7⟩ := td_rd I hd
  have hraw : s.heap.DictRaw a ens ep := ⟨o, h4, h5, h6⟩
  have hsz : ens.size = es.length := by
    have := congrArg List.length h7
    rwa [Array.length_toList, List.length_map] at this
  have z16 : ens.size ≤ sizeLine := by rw [hsz]; exact h2
  refine Calls.call_function_entry PyProof.Rows.kind_sorted PyProof.Rows.plain_sorted PyProof.Rows.entry_sorted (PyProof.Rows.args_sorted1 _) ?_
  unfold Builtin.«sorted»
  refine wpAny_bind (m := checkCount "sorted" 1 1 _) (wpAny_pure ?_)
  refine wpAny_bind (PySem.W.kdu_collect (A := X.A.in1) (PySem.KdlSrc.rawDict (es := ens) (ep := ep) h1) (I.ok.hd hcalm) hraw z16 fun h' tk acc hk' hacc => ?_)
  have hal : acc.toList = es.map fun e => Value.ref e.2.1 := by
    apply List.ext_getElem?
    intro j
    have hl : acc.toList.length = es.length := by rw [Array.length_toList, hacc.1, hsz]
    by_cases hj : j < es.length
    · have hj' : j < acc.toList.length := by omega
      obtain ⟨hi, e2⟩ := hacc.2 j acc.toList[j] (by rw [← Array.getElem?_toList]; exact List.getElem?_eq_getElem hj')
      have e3 : ens[j] = entT3 es[j] := by
        have e4 : ens.toList[j]? = (es.map entT3)[j]? := by rw [h7]
        rw [List.getElem?_map, List.getElem?_eq_getElem hj, Array.getElem?_toList, Array.getElem?_eq_getElem hi] at e4
        exact Option.some.inj e4
      rw [List.getElem?_eq_getElem hj', e2, e3, List.getElem?_map, List.getElem?_eq_getElem hj]
      rfl
    · rw [List.getElem?_eq_none (by omega), List.getElem?_eq_none (by rw [List.length_map]; omega)]
  have I1 : Inv X pins σ H { s with heap := h', toks := tk } := I.kept hk'
  have rd : ∀ e ∈ es, ∃ p, RdP X.K H (V.ref e.2.1) p ∧ e.1 = kP p := fun e he => by
    have m : e.1 ∈ es.map (·.1) := List.mem_map_of_mem he
    rw [ek] at m
    obtain ⟨p, _, ep⟩ := List.mem_map.mp m
    have := hk e he
    rw [← ep] at this
    exact ⟨p, ⟨e.2.1, rfl, this⟩, ep.symm⟩
  have pe : ps = es.map fun e => pairOf X.K H (V.ref e.2.1) := by
    have : ∀ (es : List TE3) (ps : List P), (∀ e ∈ es, ∃ p, RdP X.K H (V.ref e.2.1) p ∧ e.1 = kP p) → es.map (·.1) = ps.map kP → ps = es.map fun e => pairOf X.K H (V.ref e.2.1) := by
      intro es
      induction es with
      | nil => intro ps _ e; cases ps with
        | nil => rfl
        | cons p ps => cases e
      | cons x es ih =>
        intro ps hr e
        cases ps with
        | nil => cases e
        | cons p ps =>
          rw [List.map_cons, List.map_cons] at e
          injection e with e1 e2
          obtain ⟨p', r', e'⟩ := hr x List.mem_cons_self
          have : p' = p := kP_inj (e'.symm.trans e1)
          subst this
          rw [List.map_cons, pairOf_eq I r', ← ih ps (fun y hy => hr y (List.mem_cons_of_mem _ hy)) e2]
    exact this es ps rd ek
  have hzl : acc.toList.length ≤ sizeLine := by rw [hal, List.length_map]; exact h2
  have hpair : ∀ v ∈ acc.toList, Srt.IsPair s.heap v (pairOf X.K H (backV v)).1 (pairOf X.K H (backV v)).2 := fun v hv => by
    rw [hal] at hv
    obtain ⟨e, he, rfl⟩ := List.mem_map.mp hv
    obtain ⟨p, r', _⟩ := rd e he
    have e2 : pairOf X.K H (backV (Value.ref e.2.1)) = p := pairOf_eq I r'
    rw [e2]
    obtain ⟨t, et, ht⟩ := r'
    cases et
    obtain ⟨its2, r2, ⟨o, ho, hc, n, hd⟩, _⟩ := I.tuple ht
    obtain ⟨u1, u2, rfl, ri, rj⟩ := vals2 r2
    obtain ⟨t1, rfl⟩ := ri
    obtain ⟨t2, rfl⟩ := rj
    exact ⟨_, o, t1, t2, n, rfl, ho, hc, hd⟩
  refine wpAny_bind (wpAny_newList ?_ hzl)
  have hoL : (h'.push (seqObj "list" acc.toList.toArray 0)).get? h'.objs.size = some (seqObj "list" acc.toList.toArray 0) := Heap.get?_push_size _ rfl
  show wpAny _ _ _ _ _ { s with heap := h'.push (seqObj "list" acc.toList.toArray 0), toks := tk }
  refine wpAny_bind (wpAny_holding (wpAny_call_entry PyProof.Rows.slot_list_sort ⟨_, hoL, rfl⟩ PyProof.Rows.entry_list_sort
    (SrtO.list_sort_ord (s := { s with heap := h'.push (seqObj "list" acc.toList.toArray 0), toks := tk }) (SrtO.swo_lex fun u => pairOf X.K H (backV u)) hoL hzl (fun hl2 => ?_) fun out g1 g2 => ⟨_, rfl, ?_⟩) (PyProof.Rows.args_list_sort _)))
  · refine SrtO.pairs_sortableO (by omega) (fun v hv => (hpair v hv).keeps fun b o e _ => Heap.get?_push_of_some _ (hk' b o e)) fun o e => ?_
    have e' : some o = some (seqObj "list" acc.toList.toArray 0) := e.symm.trans hoL
    cases e'
    intro c
    exact absurd (Value.type.inj c) (by decide)
  · have hl3 : ∀ u ∈ out, ∃ a, u = Value.ref a := fun u hu => by
      have := g2.perm.mem_iff.mp hu
      rw [hal] at this
      obtain ⟨e, _, rfl⟩ := List.mem_map.mp this
      exact ⟨_, rfl⟩
    obtain ⟨e', he'⟩ := PyProof.Rows.sortedHeap_at (vs := acc.toList) (out := out.toArray) hoL
    have hlen : (out.map backV).length ≤ sizeLine := by rw [List.length_map, g2.perm.length_eq]; exact hzl
    have k2 : Paired (RdP X.K H) (out.map backV) ((out.map backV).map (pairOf X.K H)) := paired_of fun y hy => by
      obtain ⟨u, hu, rfl⟩ := List.mem_map.mp hy
      have := g2.perm.mem_iff.mp hu
      rw [hal] at this
      obtain ⟨e, he, rfl⟩ := List.mem_map.mp this
      obtain ⟨p, r', _⟩ := rd e he
      have e2 : pairOf X.K H (backV (Value.ref e.2.1)) = p := pairOf_eq I r'
      rw [e2]
      exact r'
    have e3 : (out.map backV).map (pairOf X.K H) = sortPr ps := by
      refine perm_sorted_eq (fun _ _ => lePr_anti) ?_ ?_ (sortPr_sorted ps)
      · have pp := g2.perm.map (fun u => pairOf X.K H (backV u))
        rw [hal, List.map_map] at pp
        rw [List.map_map]
        refine pp.trans ?_
        rw [show (es.map ((fun u => pairOf X.K H (backV u)) ∘ fun e => Value.ref e.2.1)) = ps from pe.symm]
        exact (sortPr_perm ps).symm
      · rw [List.map_map]
        refine List.pairwise_map.mpr (g1.imp fun {x y} h => ?_)
        have := SrtO.lexB_no.mp h
        unfold lePr
        show (pairOf X.K H (backV x)).1 < (pairOf X.K H (backV y)).1 ∨ (pairOf X.K H (backV x)).1 = (pairOf X.K H (backV y)).1 ∧ (pairOf X.K H (backV x)).2 ≤ (pairOf X.K H (backV y)).2
        omega
    rw [e3] at k2
    refine wpAny_pure ⟨_, rfl, .ref h'.objs.size, upd H h'.objs.size (.lst (out.map backV)), I1.laid (t' := tk) (fun b u e => ?_) (Nat.le_refl _)
      (show ObjOk X.prog X.w _ _ _ (.lst (out.map backV)) from ⟨hlen, out, e', vals_back hl3, by simpa using he'⟩), rfl, q _ _ k2 (I1.hok.fresh (Nat.le_refl _))⟩
    have hb : b < h'.objs.size := Heap.lt_size e
    rw [PyProof.Rows.sortedHeap_old (Nat.ne_of_lt hb) (by rw [size_push']; exact Nat.lt_succ_of_lt hb)]
    exact Heap.get?_push_of_some _ e
end
/-- sorted of a list, or of a dict of pairs -/
def bSortA : D → Option W
  | .dict kvs => if isT kvs = true then (prs? (kvs.tail.map (·.1))).map fun ps => .fr (cellsD (sortPr ps)) else none
  | d => bSort d
theorem prs_keys {K : PySem.W.Frag} {F : Rg} {H : Hp} : ∀ {kvs : List (D × D)} {es : List TE3} {ps : List P}, Dkt K F H kvs es → prs? (kvs.map (·.1)) = some ps → es.map (·.1) = ps.map kP
  | _, _, ps, .nil, e => by cases e; rfl
  | _, _, ps, .cons (k := k) (kvs := kvs) s h r t, e => by
    have e := prs?_some e
    cases ps with
    | nil => cases e
    | cons p ps =>
      rw [List.map_cons, List.map_cons] at e
      injection e with e1 e2
      have e2' : prs? (kvs.map (·.1)) = some ps := by rw [e2, prs?_map]
      rw [List.map_cons, List.map_cons, prs_keys t e2']
      congr 1
      have : PyData.tuple (k.map .int) = prD p := e1
      have h2 : tOf (PyData.tuple (k.map .int)) = tOf (prD p) := by rw [this]
      rw [tOf_tup, tOf_pr] at h2
      exact Option.some.inj h2
section
variable {X : Cx}
theorem b1_sortA (hc : X.calm = true) : B1 X (.builtin "sorted") bSortA := by
  obtain ⟨r, hr, hq⟩ := (b1_sort (X := X)).ex
  refine ⟨_, hr.or (call_sortedTD hc), fun F H a va w Q ha e q => ?_⟩
  cases a with
  | dict kvs =>
    have e : (if isT kvs = true then (prs? (kvs.tail.map (·.1))).map (fun ps => W.fr (cellsD (sortPr ps))) else none) = some w := e
    split at e
    · rename_i hT
      obtain ⟨ps, e1, rfl⟩ := Option.map_eq_some_iff.mp e
      obtain ⟨a, ks, rfl, h1, d1⟩ := ha.dit hT
      refine .inr ⟨a, ks, ps, rfl, h1, d1.keys, prs_keys d1 e1, fun ys p hy hp => q _ _ ⟨p, _, rfl, hp, rfl, .inl ⟨_, _, rfl, upd_same, (pairs_dts hy).keeps (keeps_new hp)⟩⟩⟩
    · cases e
  | _ => exact .inl (hq F H _ va w Q ha e q)
end
theorem sortA_cells (l : List P) : bSortA (cellsD l) = some (.fr (cellsD (sortPr l))) := sort_cells l
theorem sortA_tD {g : P → D} (hs : List P) : bSortA (tD (hs.map fun h => (prD h, g h))) = some (.fr (cellsD (sortPr hs))) := by
  show (prs? ((hs.map fun h => (prD h, g h)).map (·.1))).map (fun ps => W.fr (cellsD (sortPr ps))) = _
  rw [List.map_map, show ((fun x : D × D => x.1) ∘ fun h => (prD h, g h)) = prD from rfl, prs?_map]
  rfl
end PD
set_option Elab.async false
set_option linter.all false
set_option maxRecDepth 100000
set_option maxHeartbeats 4000000
/-! PD29: blocks of rows and columns: plain laws; the woven floor. -/
namespace PD
set_option autoImplicit false
open PySem PySem.Spec L2
open PyProof.Rows hiding St
theorem div_iff {t : Int} (ht : 0 < t) (a b : Int) : a / t = b ↔ b * t ≤ a ∧ a < b * t + t := by
  constructor
  · rintro rfl
    have h1 := Int.emod_nonneg a (show t ≠ 0 by omega)
    have h2 := Int.emod_lt_of_pos a ht
    have h3 := Int.mul_ediv_add_emod a t
    have h4 : a / t * t = t * (a / t) := Int.mul_comm _ _
    omega
  · rintro ⟨h1, h2⟩
    refine Int.le_antisymm (Int.lt_add_one_iff.mp ((Int.ediv_lt_iff_lt_mul ht).mpr ?_)) ((Int.le_ediv_iff_mul_le ht).mpr h1)
    rw [Int.add_mul, Int.one_mul]
    exact h2
theorem nodup_map {α β : Type} {f : α → β} (hf : ∀ a b, f a = f b → a = b) {l : List α} (h : l.Nodup) : (l.map f).Nodup := by
  refine List.pairwise_map.mpr (List.Pairwise.imp (R := (· ≠ ·)) (fun {a b} k z => ?_) h)
  exact k (hf a b z)
/-- the block of a cell, the place in it -/
def homeB (h w : Int) (p : P) : P := (p.1 / h, p.2 / w)
def remB (h w : Int) (p : P) : P := (p.1 - p.1 / h * h, p.2 - p.2 / w * w)
def putB (h w : Int) (p q : P) : P := (p.1 * h + q.1, p.2 * w + q.2)
def InB (h w : Int) (q : P) : Prop := (0 ≤ q.1 ∧ q.1 < h) ∧ 0 ≤ q.2 ∧ q.2 < w
theorem put_home {h w : Int} {p q : P} (hq : InB h w q) : homeB h w (putB h w p q) = p ∧ remB h w (putB h w p q) = q := by
  obtain ⟨⟨a1, a2⟩, b1, b2⟩ := hq
  have e1 : (p.1 * h + q.1) / h = p.1 := (div_iff (by omega) _ _).mpr (by omega)
  have e2 : (p.2 * w + q.2) / w = p.2 := (div_iff (by omega) _ _).mpr (by omega)
  obtain ⟨x, y⟩ := p
  obtain ⟨u, v⟩ := q
  unfold homeB remB putB
  simp only at *
  rw [e1, e2]
  refine ⟨rfl, ?_⟩
  simp only [Prod.mk.injEq]
  omega
theorem home_put {h w : Int} (p : P) : putB h w (homeB h w p) (remB h w p) = p := by
  obtain ⟨x, y⟩ := p
  unfold homeB remB putB
  simp only [Prod.mk.injEq]
  omega
theorem rem_in {h w : Int} (hh : 0 < h) (hw : 0 < w) (p : P) : InB h w (remB h w p) := by
  have a := (div_iff hh p.1 (p.1 / h)).mp rfl
  have b := (div_iff hw p.2 (p.2 / w)).mp rfl
  unfold InB remB
  simp only
  omega
/-- a floor woven -/
def wov (l p : List P) (h w : Int) : List P := l.flatMap fun x => p.map fun y => putB h w x y
def Wv (l : List P) (h w : Int) (p : List P) : List P := sortPr (wov l p h w)
theorem mem_wov {l p : List P} {h w : Int} (hp : ∀ q ∈ p, InB h w q) {z : P} : z ∈ wov l p h w ↔ homeB h w z ∈ l ∧ remB h w z ∈ p := by
  unfold wov
  rw [List.mem_flatMap]
  constructor
  · rintro ⟨x, hx, hz⟩
    obtain ⟨y, hy, rfl⟩ := List.mem_map.mp hz
    obtain ⟨e1, e2⟩ := put_home (p := x) (hp y hy)
    rw [e1, e2]
    exact ⟨hx, hy⟩
  · rintro ⟨h1, h2⟩
    exact ⟨_, h1, List.mem_map.mpr ⟨_, h2, home_put z⟩⟩
theorem nodup_wov {p : List P} {h w : Int} (np : p.Nodup) (hp : ∀ q ∈ p, InB h w q) : ∀ {l : List P}, l.Nodup → (wov l p h w).Nodup
  | [], _ => .nil
  | x :: l, nl => by
    obtain ⟨n1, n2⟩ := List.nodup_cons.mp nl
    unfold wov
    rw [List.flatMap_cons]
    refine List.nodup_append.mpr ⟨?_, nodup_wov np hp n2, fun a ha b hb e => ?_⟩
    · refine List.pairwise_map.mpr (List.Pairwise.imp_of_mem (R := (· ≠ ·)) (fun {a b} ha hb k z => ?_) np)
      have e1 := (put_home (p := x) (hp a ha)).2
      have e2 := (put_home (p := x) (hp b hb)).2
      rw [z, e2] at e1
      exact k e1.symm
    · subst e
      obtain ⟨y, hy, rfl⟩ := List.mem_map.mp ha
      have := (mem_wov hp).mp hb
      rw [(put_home (p := x) (hp y hy)).1] at this
      exact n1 this.1
theorem len_wov (l p : List P) (h w : Int) : (wov l p h w).length = l.length * p.length := by
  unfold wov
  rw [List.length_flatMap]
  simp only [List.length_map]
  induction l with
  | nil => simp
  | cons x l ih => rw [List.map_cons, List.sum_cons, ih, List.length_cons, Nat.succ_mul]; omega
section
variable {l p : List P} {h w : Int}
theorem mem_Wv (hp : ∀ q ∈ p, InB h w q) {z : P} : z ∈ Wv l h w p ↔ homeB h w z ∈ l ∧ remB h w z ∈ p := mem_sort.trans (mem_wov hp)
theorem ss_Wv (nl : l.Nodup) (np : p.Nodup) (hp : ∀ q ∈ p, InB h w q) : SS (Wv l h w p) := ss_sort (nodup_wov np hp nl)
theorem len_Wv : (Wv l h w p).length = l.length * p.length := by unfold Wv; rw [len_sort, len_wov]
end
theorem div_div {h d x : Int} (hh : 0 < h) (hd : 0 < d) : x / d / h = x / (h * d) ∧ (x / d - x / d / h * h) = (x - x / (h * d) * (h * d)) / d ∧
    x - x / d * d = (x - x / (h * d) * (h * d)) - (x - x / (h * d) * (h * d)) / d * d := by
  have e1 : x / (h * d) = x / d / h := by rw [Int.mul_comm h d, Int.ediv_ediv_of_nonneg (Int.le_of_lt hd)]
  have b1 := (div_iff hd x (x / d)).mp rfl
  have b2 := (div_iff hh (x / d) (x / d / h)).mp rfl
  have e3 : x / d / h * (h * d) = x / d / h * h * d := by rw [Int.mul_assoc]
  have e2 : (x - x / d / h * (h * d)) / d = x / d - x / d / h * h := by
    refine (div_iff hd _ _).mpr ?_
    rw [e3, Int.sub_mul]
    omega
  rw [e1]
  refine ⟨rfl, e2.symm, ?_⟩
  rw [e2, e3, Int.sub_mul]
  omega
theorem home_two {h w d r : Int} (hh : 0 < h) (hw : 0 < w) (hd : 0 < d) (hr : 0 < r) (z : P) : homeB h w (homeB d r z) = homeB (h * d) (w * r) z ∧ remB h w (homeB d r z) = homeB d r (remB (h * d) (w * r) z) ∧ remB d r z = remB d r (remB (h * d) (w * r) z) := by
  obtain ⟨a1, a2, a3⟩ := div_div (x := z.1) hh hd
  obtain ⟨b1, b2, b3⟩ := div_div (x := z.2) hw hr
  unfold homeB remB
  simp only
  rw [a1, b1] at *
  refine ⟨rfl, ?_, ?_⟩
  · rw [a2, b2]
  · rw [← a3, ← b3]
theorem wv_in {p o : List P} {h w d r : Int} (hh : 0 < h) (hw : 0 < w) (hd : 0 < d) (hr : 0 < r) (hp : ∀ q ∈ p, InB h w q) (ho : ∀ q ∈ o, InB d r q) : ∀ q ∈ Wv p d r o, InB (h * d) (w * r) q := fun q hq => by
  obtain ⟨h1, _⟩ := (mem_Wv ho).mp hq
  obtain ⟨⟨a1, a2⟩, b1, b2⟩ := hp _ h1
  unfold homeB at a1 a2 b1 b2
  simp only at a1 a2 b1 b2
  have c1 := (div_iff hd q.1 (q.1 / d)).mp rfl
  have c2 := (div_iff hr q.2 (q.2 / r)).mp rfl
  have d1 : 0 ≤ q.1 / d * d := Int.mul_nonneg a1 (Int.le_of_lt hd)
  have d2 : 0 ≤ q.2 / r * r := Int.mul_nonneg b1 (Int.le_of_lt hr)
  have d3 : (q.1 / d + 1) * d ≤ h * d := Int.mul_le_mul_of_nonneg_right (by omega) (Int.le_of_lt hd)
  have d4 : (q.2 / r + 1) * r ≤ w * r := Int.mul_le_mul_of_nonneg_right (by omega) (Int.le_of_lt hr)
  rw [Int.add_mul, Int.one_mul] at d3 d4
  exact ⟨⟨by omega, by omega⟩, by omega, by omega⟩
/-- two weaves are one -/
theorem wv_assoc {l p o : List P} {h w d r : Int} (hh : 0 < h) (hw : 0 < w) (hd : 0 < d) (hr : 0 < r) (nl : l.Nodup) (np : p.Nodup) (no : o.Nodup) (hp : ∀ q ∈ p, InB h w q) (ho : ∀ q ∈ o, InB d r q) :
    Wv (Wv l h w p) d r o = Wv l (h * d) (w * r) (Wv p d r o) := by
  have hpo := wv_in hh hw hd hr hp ho
  refine ss_ext (ss_Wv (ss_Wv nl np hp).nodup no ho) (ss_Wv nl (ss_Wv np no ho).nodup hpo) fun z => ?_
  obtain ⟨e1, e2, e3⟩ := home_two hh hw hd hr z
  rw [mem_Wv ho, mem_Wv hp, mem_Wv hpo, mem_Wv ho, e1, e2, ← e3, and_assoc]
/-! ### back -/
def blkB (l : List P) (h w : Int) (q : P) : List P := sortPr ((l.filter fun x => decide (homeB h w x = q)).map (remB h w))
def homesB (l : List P) (h w : Int) : List P := sortS (l.map (homeB h w))
def unwB (l : List P) (h w : Int) : Option (List P × List P) := match homesB l h w with
  | [] => none
  | q :: hs => if ((q :: hs).all fun x => decide (blkB l h w x = blkB l h w q)) = true then some (q :: hs, blkB l h w q) else none
theorem unw_wv {l p : List P} {h w : Int} (hh : 0 < h) (hw : 0 < w) (sl : SS l) (sp : SS p) (hp : ∀ q ∈ p, InB h w q) (nl : l ≠ []) (np : p ≠ []) : unwB (Wv l h w p) h w = some (l, p) := by
  have e1 : homesB (Wv l h w p) h w = l := sortS_eq sl fun q => by
    rw [List.mem_map]
    constructor
    · rintro ⟨z, hz, rfl⟩
      exact ((mem_Wv hp).mp hz).1
    · intro hq
      obtain ⟨y, hy⟩ := List.exists_mem_of_ne_nil p np
      obtain ⟨e1, e2⟩ := put_home (p := q) (hp y hy)
      exact ⟨putB h w q y, (mem_Wv hp).mpr (by rw [e1, e2]; exact ⟨hq, hy⟩), e1⟩
  have e2 : ∀ q ∈ l, blkB (Wv l h w p) h w q = p := fun q hq => by
    refine sort_eq ?_ sp fun y => ?_
    · refine List.pairwise_map.mpr (List.Pairwise.imp_of_mem (R := (· ≠ ·)) (fun {a b} ha hb k z => ?_) (List.Pairwise.filter _ (ss_Wv sl.nodup sp.nodup hp).nodup))
      have ea := of_decide_eq_true (List.mem_filter.mp ha).2
      have eb := of_decide_eq_true (List.mem_filter.mp hb).2
      exact k (by rw [← home_put (h := h) (w := w) a, ← home_put (h := h) (w := w) b, ea, eb, z])
    · rw [List.mem_map]
      constructor
      · rintro ⟨z, hz, rfl⟩
        exact ((mem_Wv hp).mp (List.mem_filter.mp hz).1).2
      · intro hy
        obtain ⟨f1, f2⟩ := put_home (p := q) (hp y hy)
        exact ⟨putB h w q y, List.mem_filter.mpr ⟨(mem_Wv hp).mpr (by rw [f1, f2]; exact ⟨hq, hy⟩), decide_eq_true f1⟩, f2⟩
  unfold unwB
  rw [e1]
  cases l with
  | nil => exact absurd rfl nl
  | cons q hs =>
    simp only
    rw [if_pos, e2 q List.mem_cons_self]
    rw [List.all_eq_true]
    intro x hx
    exact decide_eq_true (by rw [e2 x hx, e2 q List.mem_cons_self])
end PD
set_option Elab.async false
set_option linter.all false
set_option maxRecDepth 100000
set_option maxHeartbeats 4000000
/-! PD30: small facts for the walks. -/
namespace PD
set_option autoImplicit false
open PySem PySem.Spec L2
open PyProof.Rows hiding St
theorem tyM_list (xs : List D) : tyM (.list xs) = "list" := rfl
theorem tyM_cells (l : List P) : tyM (cellsD l) = "list" := rfl
theorem dash_list : (("list" : String) ≠ "-") = True := by simp
theorem dash_dict : (("dict" : String) ≠ "-") = True := by simp
end PD
set_option Elab.async false
set_option linter.all false
set_option maxRecDepth 100000
set_option maxHeartbeats 4000000
namespace PD.K81
set_option autoImplicit false
open PySem PySem.Spec L2
open PyProof.Rows hiding St
noncomputable section
/-! ### the text -/
def topS (i : Nat) : Stmt := PySem.Challenge.pw_cellgrounds_k81_weaves_of_weaves.main.body.getD i (.Pass ⟨0, 0, 0, 0⟩)
abbrev s_fits_whole : Stmt := topS 9
theorem sc_fits_whole : FnScope ["value", "low", "high"] ["value", "low", "high"] (defScope s_fits_whole) := ⟨rfl, rfl, rfl, by decide +kernel, rfl, by decide +kernel, by decide +kernel⟩
def b_fits_whole : DS := (dRet (dAndV (dB1 (bIsi "int") (dVar 0)) (dAndV (dNotV (dB1 (bIsi "bool") (dVar 0))) (dOfT (dChainT cLe cLe (dVar 1) (dVar 0) (dVar 2))))))
def m_fits_whole : FS := fun ds => if ds.length = 3 then semOf 3 b_fits_whole ds else none
abbrev s_is_tuple_of : Stmt := topS 10
theorem sc_is_tuple_of : FnScope ["value", "least", "most"] ["value", "least", "most"] (defScope s_is_tuple_of) := ⟨rfl, rfl, rfl, by decide +kernel, rfl, by decide +kernel, by decide +kernel⟩
def b_is_tuple_of : DS := (dRet (dAndV (dB1 (bIsi "tuple") (dVar 0)) (dOfT (dChainT cLe cLe (dVar 1) (dB1 bLen (dVar 0)) (dVar 2)))))
def m_is_tuple_of : FS := fun ds => if ds.length = 3 then semOf 3 b_is_tuple_of ds else none
abbrev s_box_in : Stmt := topS 13
theorem sc_box_in : FnScope ["cells", "rows", "columns", "row", "column"] ["cells"] (defScope s_box_in) := ⟨rfl, rfl, rfl, by decide +kernel, rfl, by decide +kernel, by decide +kernel⟩
def b_box_in : DS := (dSeq (dPar [1, 2] (dCons (dLc (dItems (dVar 0)) (gTup 2 (gCons (gN 3) (gCons (gN 4) gNil))) dYes (dVar 3) [3, 4]) (dCons (dLc (dItems (dVar 0)) (gTup 2 (gCons (gN 3) (gCons (gN 4) gNil))) dYes (dVar 4) [3, 4]) dNil))) (dRet (dTup (dCons (dB1 bMinA (dVar 1)) (dCons (dB1 bMinA (dVar 2)) (dCons (dB1 bMaxA (dVar 1)) (dCons (dB1 bMaxA (dVar 2)) dNil)))))))
def m_box_in : FS := fun ds => if ds.length = 1 then semOf 5 b_box_in ds else none
abbrev s_full_block : Stmt := topS 18
theorem sc_full_block : FnScope ["times", "row", "column"] ["times"] (defScope s_full_block) := ⟨rfl, rfl, rfl, by decide +kernel, rfl, by decide +kernel, by decide +kernel⟩
def b_full_block : DS := (dRet (dLc2 (dRg1 (dVar 0)) (gN 1) dYes (dRg1 (dVar 0)) (gN 2) dYes (dTup (dCons (dVar 1) (dCons (dVar 2) dNil))) [1, 2] [2]))
def m_full_block : FS := fun ds => if ds.length = 1 then semOf 3 b_full_block ds else none
abbrev s_woven_in : Stmt := topS 19
theorem sc_woven_in : FnScope ["cells", "pattern", "high", "wide", "found", "row", "column", "down", "right"] ["cells", "pattern", "high", "wide"] (defScope s_woven_in) := ⟨rfl, rfl, rfl, by decide +kernel, rfl, by decide +kernel, by decide +kernel⟩
def l1_woven_in : DS := (dAugL 4 (dLc (dItems (dVar 1)) (gTup 2 (gCons (gN 7) (gCons (gN 8) gNil))) dYes (dTup (dCons (dBin bAdd (dBin bMul (dVar 5) (dVar 2)) (dVar 7)) (dCons (dBin bAdd (dBin bMul (dVar 6) (dVar 3)) (dVar 8)) dNil))) [7, 8]))
def b_woven_in : DS := (dSeq (dSet 4 (dLst dNil)) (dSeq (dFor (dItems (dVar 0)) (gTup 2 (gCons (gN 5) (gCons (gN 6) gNil))) l1_woven_in [5, 6, 7, 8]) (dRet (dB1 bSortA (dVar 4)))))
def m_woven_in : FS := fun ds => if ds.length = 4 then semOf 9 b_woven_in ds else none
abbrev s_power_in : Stmt := topS 20
theorem sc_power_in : FnScope ["number", "times", "found", "turn"] ["number", "times"] (defScope s_power_in) := ⟨rfl, rfl, rfl, by decide +kernel, rfl, by decide +kernel, by decide +kernel⟩
def l1_power_in : DS := (dSet 2 (dBin bMul (dVar 2) (dVar 0)))
def b_power_in : DS := (dSeq (dSet 2 (dC (.int 1))) (dSeq (dFor (dRg1 (dVar 1)) (gN 3) l1_power_in [3]) (dRet (dVar 2))))
def m_power_in : FS := fun ds => if ds.length = 2 then semOf 4 b_power_in ds else none
abbrev s_need_fit : Stmt := topS 21
theorem sc_need_fit : FnScope ["cells", "cell"] ["cells"] (defScope s_need_fit) := ⟨rfl, rfl, rfl, by decide +kernel, rfl, by decide +kernel, by decide +kernel⟩
def b_need_fit : DS := (dSeq (dIfS (dCmpT cGt (dB1 bLen (dVar 0)) (dC (.int (400)))) dNever dNx) (dIfS (dCmpT cGt (dB1 bMaxA (dLc (dItems (dVar 0)) (gN 1) dYes (dB1 bMaxA (dVar 1)) [1])) (dBin bSub (dC (.int (60))) (dC (.int 1)))) dNever dNx))
def m_need_fit : FS := fun ds => if ds.length = 1 then semOf 2 b_need_fit ds else none
abbrev s_blocks_of : Stmt := topS 22
theorem sc_blocks_of : FnScope ["floor", "high", "wide", "found", "row", "column", "home"] ["floor", "high", "wide"] (defScope s_blocks_of) := ⟨rfl, rfl, rfl, by decide +kernel, rfl, by decide +kernel, by decide +kernel⟩
def b_blocks_of : DS := (dSeq (dGrp 3 (dItems (dVar 0)) (gTup 2 (gCons (gN 4) (gCons (gN 5) gNil))) (dTup (dCons (dBin bDiv (dVar 4) (dVar 1)) (dCons (dBin bDiv (dVar 5) (dVar 2)) dNil))) 6 (dVar 6) (dTup (dCons (dBin bSub (dVar 4) (dBin bMul (dBin bIx (dVar 6) (dC (.int 0))) (dVar 1))) (dCons (dBin bSub (dVar 5) (dBin bMul (dBin bIx (dVar 6) (dC (.int 1))) (dVar 2))) dNil))) [4, 5, 6]) (dRet (dVar 3)))
def m_blocks_of : FS := fun ds => if ds.length = 3 then semOf 7 b_blocks_of ds else none
abbrev s__law_cup : Stmt := topS 33
theorem sc__law_cup : FnScope ["script", "cell"] ["script"] (defScope s__law_cup) := ⟨rfl, rfl, rfl, by decide +kernel, rfl, by decide +kernel, by decide +kernel⟩
def b__law_cup : DS := (dRet (dLst (dCons (dIf (dCmpT cGe (dVar 1) (dBin bPow (dC (.int 10)) (dC (.int 18)))) (dBin bDiv (dVar 1) (dC (.int 2033))) (dC (.int 0))) (dCons (dBin bAdd (dBin bMod (dB1 bInt (dBin bAdd (dBin bMul (dVar 1) (dC (.int 2797))) (dC (.int 11845)))) (dC (.int 2077516403))) (dC (.int 1863))) dNil))))
abbrev s__law_roll : Stmt := topS 34
theorem sc__law_roll : FnScope ["cup", "many", "found", "deep"] ["cup", "many"] (defScope s__law_roll) := ⟨rfl, rfl, rfl, by decide +kernel, rfl, by decide +kernel, by decide +kernel⟩
def b__law_roll : DS := (dSeq (dIfS (dCmpT cGt (dBin bIx (dVar 0) (dC (.int 0))) (dC (.int 0))) (dSeq (dSet 2 (dBin bMod (dB1 bInt (dBin bIx (dVar 0) (dC (.int 0)))) (dVar 1))) (dSeq (dStIx 0 (dBin bDiv (dBin bIx (dVar 0) (dC (.int 0))) (dVar 1)) (dC (.int 0))) (dRet (dVar 2)))) dNx) (dSeq (dStIx 0 (dBin bMod (dB1 bInt (dBin bAdd (dBin bMul (dBin bIx (dVar 0) (dC (.int 1))) (dC (.int 41119))) (dC (.int 14307)))) (dC (.int 2147483423))) (dC (.int 1))) (dSeq (dSet 3 (dBin bMod (dB1 bInt (dBin bMul (dBin bIx (dVar 0) (dC (.int 1))) (dBin bAdd (dBin bIx (dVar 0) (dC (.int 1))) (dC (.int 2425))))) (dC (.int 2147483587)))) (dRet (dBin bMod (dB1 bInt (dBin bDiv (dVar 3) (dC (.int 2897)))) (dVar 1))))))
def m__law_roll : FC := fun cd ds => if ds.length + 1 = 2 then semC 4 b__law_roll cd ds else none
abbrev s__law_box : Stmt := topS 37
theorem sc__law_box : FnScope ["high", "wide", "found", "row", "column"] ["high", "wide"] (defScope s__law_box) := ⟨rfl, rfl, rfl, by decide +kernel, rfl, by decide +kernel, by decide +kernel⟩
def l1__law_box : DS := (dSet 2 (dBin bAdd (dVar 2) (dLc (dRg1 (dVar 1)) (gN 4) dYes (dTup (dCons (dVar 3) (dCons (dVar 4) dNil))) [4])))
def b__law_box : DS := (dSeq (dSet 2 (dLst dNil)) (dSeq (dFor (dRg1 (dVar 0)) (gN 3) l1__law_box [3, 4]) (dRet (dB1 bTuple (dVar 2)))))
def m__law_box : FS := fun ds => if ds.length = 2 then semOf 5 b__law_box ds else none
abbrev s_fits_cell : Stmt := topS 11
theorem sc_fits_cell : FnScope ["value", "place"] ["value"] (defScope s_fits_cell) := ⟨rfl, rfl, rfl, by decide +kernel, rfl, by decide +kernel, by decide +kernel⟩
def b_fits_cell : DS := (dRet (dAndV (dCall m_is_tuple_of (dCons (dVar 0) (dCons (dC (.int 2)) (dCons (dC (.int 2)) dNil)))) (dB1 bAll (dLc (dItems (dVar 0)) (gN 1) dYes (dCall m_fits_whole (dCons (dVar 1) (dCons (dC (.int 0)) (dCons (dBin bSub (dC (.int (60))) (dC (.int 1))) dNil)))) [1]))))
def m_fits_cell : FS := fun ds => if ds.length = 1 then semOf 2 b_fits_cell ds else none
abbrev s_coarse_in : Stmt := topS 23
theorem sc_coarse_in : FnScope ["floor", "times", "least", "blocks", "home"] ["floor", "times", "least"] (defScope s_coarse_in) := ⟨rfl, rfl, rfl, by decide +kernel, rfl, by decide +kernel, by decide +kernel⟩
def b_coarse_in : DS := (dSeq (dSet 3 (dCall m_blocks_of (dCons (dVar 0) (dCons (dVar 1) (dCons (dVar 1) dNil))))) (dRet (dB1 bSortA (dLc (dDict 3 true keysD) (gN 4) (dCmpT cGe (dB1 bLen (dBin bIx (dVar 3) (dVar 4))) (dVar 2)) (dVar 4) [4]))))
def m_coarse_in : FS := fun ds => if ds.length = 3 then semOf 5 b_coarse_in ds else none
abbrev s__law_floor : Stmt := topS 36
theorem sc__law_floor : FnScope ["cup", "many", "side", "cells", "turn"] ["cup", "many", "side"] (defScope s__law_floor) := ⟨rfl, rfl, rfl, by decide +kernel, rfl, by decide +kernel, by decide +kernel⟩
def b__law_floor : DS := (dSeq (dSet 3 (dLc (dRg1 (dBin bAdd (dC (.int 1)) (dCallC m__law_roll (dCons (dVar 0) (dCons (dVar 1) dNil))))) (gN 4) dYes (dTup (dCons (dCallC m__law_roll (dCons (dVar 0) (dCons (dVar 2) dNil))) (dCons (dCallC m__law_roll (dCons (dVar 0) (dCons (dVar 2) dNil))) dNil))) [4])) (dRet (dB1 bTuple (dB1 bSortSet (dVar 3)))))
def m__law_floor : FC := fun cd ds => if ds.length + 1 = 3 then semC 5 b__law_floor cd ds else none
abbrev s__law_pattern : Stmt := topS 39
theorem sc__law_pattern : FnScope ["cup", "high", "wide", "found", "cell"] ["cup", "high", "wide"] (defScope s__law_pattern) := ⟨rfl, rfl, rfl, by decide +kernel, rfl, by decide +kernel, by decide +kernel⟩
def b__law_pattern : DS := (dSeq (dSet 3 (dLc (dItems (dCall m__law_box (dCons (dVar 1) (dCons (dVar 2) dNil)))) (gN 4) (dCmpT cEq (dCallC m__law_roll (dCons (dVar 0) (dCons (dC (.int 2)) dNil))) (dC (.int 0))) (dVar 4) [4])) (dRet (dB1 bTuple (dIf (dCmpT cNe (dVar 3) (dLst dNil)) (dVar 3) (dLst (dCons (dTup (dCons (dCallC m__law_roll (dCons (dVar 0) (dCons (dVar 1) dNil))) (dCons (dCallC m__law_roll (dCons (dVar 0) (dCons (dVar 2) dNil))) dNil))) dNil))))))
def m__law_pattern : FC := fun cd ds => if ds.length + 1 = 3 then semC 5 b__law_pattern cd ds else none
abbrev s_fits_floor : Stmt := topS 12
theorem sc_fits_floor : FnScope ["value", "cell", "one", "other"] ["value"] (defScope s_fits_floor) := ⟨rfl, rfl, rfl, by decide +kernel, rfl, by decide +kernel, by decide +kernel⟩
def b_fits_floor : DS := (dSeq (dIfS (dOrT (dNotT (dTruT (dCall m_is_tuple_of (dCons (dVar 0) (dCons (dC (.int 1)) (dCons (dC (.int (400))) dNil)))))) (dNotT (dTruT (dB1 bAll (dLc (dItems (dVar 0)) (gN 1) dYes (dCall m_fits_cell (dCons (dVar 1) dNil)) [1]))))) (dRet (dC (.bool false))) dNx) (dRet (dB1 bAll (dLc (dZip (dCons (dVar 0) (dCons (dCut (dVar 0) (dPart (dC (.int 1))) dNo) dNil))) (gTup 2 (gCons (gN 2) (gCons (gN 3) gNil))) dYes (dCmp cLt (dVar 2) (dVar 3)) [2, 3]))))
def m_fits_floor : FS := fun ds => if ds.length = 1 then semOf 4 b_fits_floor ds else none
abbrev s_need_floor : Stmt := topS 14
theorem sc_need_floor : FnScope ["floor"] ["floor"] (defScope s_need_floor) := ⟨rfl, rfl, rfl, by decide +kernel, rfl, by decide +kernel, by decide +kernel⟩
def b_need_floor : DS := (dIfS (dNotT (dTruT (dCall m_fits_floor (dCons (dVar 0) dNil)))) dNever dNx)
def m_need_floor : FS := fun ds => if ds.length = 1 then semOf 1 b_need_floor ds else none
abbrev s_need_scale : Stmt := topS 16
theorem sc_need_scale : FnScope ["floor", "times"] ["floor", "times"] (defScope s_need_scale) := ⟨rfl, rfl, rfl, by decide +kernel, rfl, by decide +kernel, by decide +kernel⟩
def b_need_scale : DS := (dSeq (dDrop (dCall m_need_floor (dCons (dVar 0) dNil))) (dIfS (dNotT (dTruT (dCall m_fits_whole (dCons (dVar 1) (dCons (dC (.int 1)) (dCons (dC (.int (60))) dNil)))))) dNever dNx))
def m_need_scale : FS := fun ds => if ds.length = 2 then semOf 2 b_need_scale ds else none
abbrev s_need_block : Stmt := topS 17
theorem sc_need_block : FnScope ["floor", "high", "wide"] ["floor", "high", "wide"] (defScope s_need_block) := ⟨rfl, rfl, rfl, by decide +kernel, rfl, by decide +kernel, by decide +kernel⟩
def b_need_block : DS := (dSeq (dDrop (dCall m_need_floor (dCons (dVar 0) dNil))) (dIfS (dOrT (dNotT (dTruT (dCall m_fits_whole (dCons (dVar 1) (dCons (dC (.int 1)) (dCons (dC (.int (60))) dNil)))))) (dNotT (dTruT (dCall m_fits_whole (dCons (dVar 2) (dCons (dC (.int 1)) (dCons (dC (.int (60))) dNil))))))) dNever dNx))
def m_need_block : FS := fun ds => if ds.length = 3 then semOf 3 b_need_block ds else none
abbrev s_enlarged : Stmt := topS 24
theorem sc_enlarged : FnScope ["floor", "times", "found"] ["floor", "times"] (defScope s_enlarged) := ⟨rfl, rfl, rfl, by decide +kernel, rfl, by decide +kernel, by decide +kernel⟩
def b_enlarged : DS := (dSeq (dDrop (dCall m_need_scale (dCons (dVar 0) (dCons (dVar 1) dNil)))) (dSeq (dIfS (dCmpT cGt (dBin bMul (dBin bMul (dB1 bLen (dVar 0)) (dVar 1)) (dVar 1)) (dC (.int (400)))) dNever dNx) (dSeq (dSet 2 (dCall m_woven_in (dCons (dVar 0) (dCons (dCall m_full_block (dCons (dVar 1) dNil)) (dCons (dVar 1) (dCons (dVar 1) dNil)))))) (dSeq (dDrop (dCall m_need_fit (dCons (dVar 2) dNil))) (dRet (dB1 bTuple (dVar 2)))))))
def m_enlarged : FS := fun ds => if ds.length = 2 then semOf 3 b_enlarged ds else none
abbrev s_lessened : Stmt := topS 25
theorem sc_lessened : FnScope ["floor", "times", "found"] ["floor", "times"] (defScope s_lessened) := ⟨rfl, rfl, rfl, by decide +kernel, rfl, by decide +kernel, by decide +kernel⟩
def b_lessened : DS := (dSeq (dDrop (dCall m_need_scale (dCons (dVar 0) (dCons (dVar 1) dNil)))) (dSeq (dSet 2 (dCall m_coarse_in (dCons (dVar 0) (dCons (dVar 1) (dCons (dBin bMul (dVar 1) (dVar 1)) dNil))))) (dRet (dIf (dCmpT cEq (dBin bMul (dBin bMul (dB1 bLen (dVar 2)) (dVar 1)) (dVar 1)) (dB1 bLen (dVar 0))) (dB1 bTuple (dVar 2)) (dC .none)))))
def m_lessened : FS := fun ds => if ds.length = 2 then semOf 3 b_lessened ds else none
abbrev s_need_pattern : Stmt := topS 26
theorem sc_need_pattern : FnScope ["floor", "high", "wide", "pattern", "row", "column"] ["floor", "high", "wide", "pattern"] (defScope s_need_pattern) := ⟨rfl, rfl, rfl, by decide +kernel, rfl, by decide +kernel, by decide +kernel⟩
def b_need_pattern : DS := (dSeq (dDrop (dCall m_need_block (dCons (dVar 0) (dCons (dVar 1) (dCons (dVar 2) dNil))))) (dSeq (dIfS (dOrT (dNotT (dTruT (dCall m_fits_floor (dCons (dVar 3) dNil)))) (dCmpT cGe (dB1 bMaxA (dLc (dItems (dVar 3)) (gTup 2 (gCons (gN 4) (gCons (gN 5) gNil))) dYes (dVar 4) [4, 5])) (dVar 1))) dNever dNx) (dIfS (dCmpT cGe (dB1 bMaxA (dLc (dItems (dVar 3)) (gTup 2 (gCons (gN 4) (gCons (gN 5) gNil))) dYes (dVar 5) [4, 5])) (dVar 2)) dNever dNx)))
def m_need_pattern : FS := fun ds => if ds.length = 4 then semOf 6 b_need_pattern ds else none
abbrev s_unwoven : Stmt := topS 28
theorem sc_unwoven : FnScope ["floor", "high", "wide", "blocks", "homes", "home"] ["floor", "high", "wide"] (defScope s_unwoven) := ⟨rfl, rfl, rfl, by decide +kernel, rfl, by decide +kernel, by decide +kernel⟩
def b_unwoven : DS := (dSeq (dDrop (dCall m_need_block (dCons (dVar 0) (dCons (dVar 1) (dCons (dVar 2) dNil))))) (dSeq (dSet 3 (dCall m_blocks_of (dCons (dVar 0) (dCons (dVar 1) (dCons (dVar 2) dNil))))) (dSeq (dSet 4 (dB1 bSortA (dVar 3))) (dSeq (dIfS (dNotT (dTruT (dB1 bAll (dLc (dItems (dVar 4)) (gN 5) dYes (dCmp cEq (dB1 bSortA (dBin bIx (dVar 3) (dVar 5))) (dB1 bSortA (dBin bIx (dVar 3) (dBin bIx (dVar 4) (dC (.int 0)))))) [5])))) (dRet (dC .none)) dNx) (dRet (dTup (dCons (dB1 bTuple (dVar 4)) (dCons (dB1 bTuple (dB1 bSortA (dBin bIx (dVar 3) (dBin bIx (dVar 4) (dC (.int 0)))))) dNil))))))))
def m_unwoven : FS := fun ds => if ds.length = 3 then semOf 6 b_unwoven ds else none
abbrev s_is_woven : Stmt := topS 29
theorem sc_is_woven : FnScope ["floor", "high", "wide", "value", "row", "column"] ["floor", "high", "wide", "value"] (defScope s_is_woven) := ⟨rfl, rfl, rfl, by decide +kernel, rfl, by decide +kernel, by decide +kernel⟩
def b_is_woven : DS := (dSeq (dDrop (dCall m_need_block (dCons (dVar 0) (dCons (dVar 1) (dCons (dVar 2) dNil))))) (dSeq (dIfS (dOrT (dNotT (dTruT (dB1 (bIsi "tuple") (dVar 3)))) (dOrT (dCmpT cNe (dB1 bLen (dVar 3)) (dC (.int 2))) (dOrT (dNotT (dTruT (dCall m_fits_floor (dCons (dBin bIx (dVar 3) (dC (.int 0))) dNil)))) (dNotT (dTruT (dCall m_fits_floor (dCons (dBin bIx (dVar 3) (dC (.int 1))) dNil))))))) (dRet (dC (.bool false))) dNx) (dSeq (dIfS (dNotT (dTruT (dB1 bAll (dLc (dItems (dBin bIx (dVar 3) (dC (.int 1)))) (gTup 2 (gCons (gN 4) (gCons (gN 5) gNil))) dYes (dAndV (dCmp cLt (dVar 4) (dVar 1)) (dCmp cLt (dVar 5) (dVar 2))) [4, 5])))) (dRet (dC (.bool false))) dNx) (dRet (dAndV (dCmp cEq (dBin bMul (dB1 bLen (dBin bIx (dVar 3) (dC (.int 0)))) (dB1 bLen (dBin bIx (dVar 3) (dC (.int 1))))) (dB1 bLen (dVar 0))) (dCmp cEq (dCall m_woven_in (dCons (dBin bIx (dVar 3) (dC (.int 0))) (dCons (dBin bIx (dVar 3) (dC (.int 1))) (dCons (dVar 1) (dCons (dVar 2) dNil))))) (dB1 bList (dVar 0))))))))
def m_is_woven : FS := fun ds => if ds.length = 4 then semOf 6 b_is_woven ds else none
abbrev s_woven : Stmt := topS 27
theorem sc_woven : FnScope ["floor", "high", "wide", "pattern", "found"] ["floor", "high", "wide", "pattern"] (defScope s_woven) := ⟨rfl, rfl, rfl, by decide +kernel, rfl, by decide +kernel, by decide +kernel⟩
def b_woven : DS := (dSeq (dDrop (dCall m_need_pattern (dCons (dVar 0) (dCons (dVar 1) (dCons (dVar 2) (dCons (dVar 3) dNil)))))) (dSeq (dIfS (dCmpT cGt (dBin bMul (dB1 bLen (dVar 0)) (dB1 bLen (dVar 3))) (dC (.int (400)))) dNever dNx) (dSeq (dSet 4 (dCall m_woven_in (dCons (dVar 0) (dCons (dVar 3) (dCons (dVar 1) (dCons (dVar 2) dNil)))))) (dSeq (dDrop (dCall m_need_fit (dCons (dVar 4) dNil))) (dRet (dB1 bTuple (dVar 4)))))))
def m_woven : FS := fun ds => if ds.length = 4 then semOf 5 b_woven ds else none
abbrev s_woven_times : Stmt := topS 30
theorem sc_woven_times : FnScope ["floor", "high", "wide", "many", "found", "turn"] ["floor", "high", "wide", "many"] (defScope s_woven_times) := ⟨rfl, rfl, rfl, by decide +kernel, rfl, by decide +kernel, by decide +kernel⟩
def l1_woven_times : DS := (dSet 4 (dCall m_woven_in (dCons (dVar 4) (dCons (dVar 0) (dCons (dVar 1) (dCons (dVar 2) dNil))))))
def b_woven_times : DS := (dSeq (dDrop (dCall m_need_pattern (dCons (dVar 0) (dCons (dVar 1) (dCons (dVar 2) (dCons (dVar 0) dNil)))))) (dSeq (dIfS (dNotT (dTruT (dCall m_fits_whole (dCons (dVar 3) (dCons (dC (.int 1)) (dCons (dC (.int (60))) dNil)))))) dNever dNx) (dSeq (dIfS (dCmpT cGt (dCall m_power_in (dCons (dB1 bLen (dVar 0)) (dCons (dVar 3) dNil))) (dC (.int (400)))) dNever dNx) (dSeq (dSet 4 (dB1 bList (dVar 0))) (dSeq (dFor (dRg1 (dBin bSub (dVar 3) (dC (.int 1)))) (gN 5) l1_woven_times [5]) (dSeq (dDrop (dCall m_need_fit (dCons (dVar 4) dNil))) (dRet (dB1 bTuple (dVar 4)))))))))
def m_woven_times : FS := fun ds => if ds.length = 4 then semOf 6 b_woven_times ds else none
abbrev s_weaves_of : Stmt := topS 31
theorem sc_weaves_of : FnScope ["floor", "top", "left", "bottom", "right", "found", "high", "wide"] ["floor"] (defScope s_weaves_of) := ⟨rfl, rfl, rfl, by decide +kernel, rfl, by decide +kernel, by decide +kernel⟩
def l1_weaves_of : DS := (dIfS (dAndT (dCmpT cNe (dTup (dCons (dVar 6) (dCons (dVar 7) dNil))) (dTup (dCons (dC (.int 1)) (dCons (dC (.int 1)) dNil)))) (dCmpT cIsNot (dCall m_unwoven (dCons (dVar 0) (dCons (dVar 6) (dCons (dVar 7) dNil)))) (dC .none))) (dDrop (dMut "list" 5 (dCons (dTup (dCons (dVar 6) (dCons (dVar 7) dNil))) dNil) mApp)) dNx)
def l2_weaves_of : DS := (dFor (dRg2 (dC (.int 1)) (dBin bAdd (dVar 4) (dC (.int 2)))) (gN 7) l1_weaves_of [7])
def b_weaves_of : DS := (dSeq (dDrop (dCall m_need_floor (dCons (dVar 0) dNil))) (dSeq (dUnp (gTup 4 (gCons (gN 1) (gCons (gN 2) (gCons (gN 3) (gCons (gN 4) gNil))))) (dCall m_box_in (dCons (dVar 0) dNil))) (dSeq (dSet 5 (dLst dNil)) (dSeq (dFor (dRg2 (dC (.int 1)) (dBin bAdd (dVar 3) (dC (.int 2)))) (gN 6) l2_weaves_of [6, 7]) (dRet (dB1 bTuple (dVar 5)))))))
def m_weaves_of : FS := fun ds => if ds.length = 1 then semOf 8 b_weaves_of ds else none
abbrev s__law_same : Stmt := topS 35
theorem sc__law_same : FnScope ["told", "due", "at"] ["told", "due"] (defScope s__law_same) := ⟨rfl, rfl, rfl, by decide +kernel, rfl, by decide +kernel, by decide +kernel⟩
def b__law_same (sem : FS) : DS := (dSeq (dIfS (dOrT (dTruT (dB1 (bIsi "tuple") (dVar 1))) (dTruT (dB1 (bIsi "list") (dVar 1)))) (dSeq (dIfS (dOrT (dCmpT cNe (dB1 (bIsi "tuple") (dVar 0)) (dB1 (bIsi "tuple") (dVar 1))) (dOrT (dCmpT cNe (dB1 (bIsi "list") (dVar 0)) (dB1 (bIsi "list") (dVar 1))) (dCmpT cNe (dB1 bLen (dVar 0)) (dB1 bLen (dVar 1))))) (dRet (dC (.bool false))) dNx) (dRet (dCmp cEq (dLc (dRg1 (dB1 bLen (dVar 1))) (gN 2) (dNotT (dTruT (dCall sem (dCons (dBin bIx (dVar 0) (dVar 2)) (dCons (dBin bIx (dVar 1) (dVar 2)) dNil))))) (dC (.int 1)) [2]) (dLst dNil)))) dNx) (dSeq (dIfS (dCmpT cIs (dVar 1) (dC .none)) (dRet (dCmp cIs (dVar 0) (dC .none))) dNx) (dSeq (dIfS (dTruT (dB1 (bIsi "bool") (dVar 1))) (dRet (dIf (dTruT (dVar 1)) (dCmp cIs (dVar 0) (dC (.bool true))) (dCmp cIs (dVar 0) (dC (.bool false))))) dNx) (dSeq (dIfS (dTruT (dB1 (bIsi "int") (dVar 1))) (dRet (dAndV (dB1 (bIsi "int") (dVar 0)) (dAndV (dNotV (dB1 (bIsi "bool") (dVar 0))) (dCmp cEq (dB1 bInt (dVar 0)) (dVar 1))))) dNx) (dRet (dAndV (dB1 (bIsi "str") (dVar 0)) (dCmp cEq (dB1 bStr (dVar 0)) (dVar 1))))))))
def m__law_same : Nat → FS
  | 0 => fun _ => none
  | i + 1 => fun ds => if ds.length = 2 then semOf 3 (b__law_same (m__law_same i)) ds else none
abbrev s__law_rows_right : Stmt := topS 38
theorem sc__law_rows_right : FnScope ["floor", "pattern", "told"] [] (defScope s__law_rows_right) := ⟨rfl, rfl, rfl, by decide +kernel, rfl, by decide +kernel, by decide +kernel⟩
def b__law_rows_right : DS := (dSeq (dUnp (gTup 2 (gCons (gN 0) (gCons (gN 1) gNil))) (dTup (dCons (dTup (dCons (dTup (dCons (dC (.int 0)) (dCons (dC (.int 0)) dNil))) (dCons (dTup (dCons (dC (.int 0)) (dCons (dC (.int 1)) dNil))) (dCons (dTup (dCons (dC (.int 1)) (dCons (dC (.int 0)) dNil))) dNil)))) (dCons (dTup (dCons (dTup (dCons (dC (.int 0)) (dCons (dC (.int 0)) dNil))) (dCons (dTup (dCons (dC (.int 1)) (dCons (dC (.int 1)) dNil))) dNil))) dNil)))) (dSeq (dIfS (dCmpT cNe (dCall m_woven_times (dCons (dVar 0) (dCons (dC (.int 2)) (dCons (dC (.int 2)) (dCons (dC (.int 3)) dNil))))) (dCall m_woven (dCons (dCall m_woven (dCons (dVar 0) (dCons (dC (.int 2)) (dCons (dC (.int 2)) (dCons (dVar 0) dNil))))) (dCons (dC (.int 2)) (dCons (dC (.int 2)) (dCons (dVar 0) dNil)))))) (dRet (dC (.bool false))) dNx) (dSeq (dSet 2 (dTup (dCons (dCall m_woven (dCons (dVar 0) (dCons (dC (.int 2)) (dCons (dC (.int 2)) (dCons (dVar 1) dNil))))) (dCons (dCall m_unwoven (dCons (dVar 0) (dCons (dC (.int 2)) (dCons (dC (.int 1)) dNil)))) (dCons (dCall m_weaves_of (dCons (dTup (dCons (dTup (dCons (dC (.int 0)) (dCons (dC (.int 0)) dNil))) (dCons (dTup (dCons (dC (.int 0)) (dCons (dC (.int 1)) dNil))) dNil))) dNil)) (dCons (dB1 bLen (dCall m_woven_times (dCons (dVar 0) (dCons (dC (.int 2)) (dCons (dC (.int 2)) (dCons (dC (.int 4)) dNil)))))) dNil)))))) (dRet (dCall (m__law_same 8) (dCons (dVar 2) (dCons (dTup (dCons (dTup (dCons (dTup (dCons (dC (.int 0)) (dCons (dC (.int 0)) dNil))) (dCons (dTup (dCons (dC (.int 0)) (dCons (dC (.int 2)) dNil))) (dCons (dTup (dCons (dC (.int 1)) (dCons (dC (.int 1)) dNil))) (dCons (dTup (dCons (dC (.int 1)) (dCons (dC (.int 3)) dNil))) (dCons (dTup (dCons (dC (.int 2)) (dCons (dC (.int 0)) dNil))) (dCons (dTup (dCons (dC (.int 3)) (dCons (dC (.int 1)) dNil))) dNil))))))) (dCons (dC .none) (dCons (dTup (dCons (dTup (dCons (dC (.int 1)) (dCons (dC (.int 2)) dNil))) dNil)) (dCons (dC (.int 81)) dNil))))) dNil)))))))
def m__law_rows_right : FS := fun ds => if ds.length = 0 then semOf 3 b__law_rows_right ds else none
abbrev s__law_three_right : Stmt := topS 40
theorem sc__law_three_right : FnScope ["cup", "floor", "high", "wide", "down", "right", "one", "other", "first", "both", "here", "told", "side", "row", "column", "most", "size", "due"] ["cup", "floor"] (defScope s__law_three_right) := ⟨rfl, rfl, rfl, by decide +kernel, rfl, by decide +kernel, by decide +kernel⟩
def l1__law_three_right : DS := (dSeq (dSet 17 (dAndV (dCmp cNe (dVar 16) (dTup (dCons (dC (.int 1)) (dCons (dC (.int 1)) dNil)))) (dAndV (dCmp cLe (dBin bIx (dVar 16) (dC (.int 0))) (dBin bIx (dVar 15) (dC (.int 0)))) (dCmp cLe (dBin bIx (dVar 16) (dC (.int 1))) (dBin bIx (dVar 15) (dC (.int 1))))))) (dIfS (dCmpT cNe (dCmp cIn (dVar 16) (dCall m_weaves_of (dCons (dVar 10) dNil))) (dVar 17)) (dRet (dC (.bool false))) dNx))
def b__law_three_right : DS := (dSeq (dPar [2, 3, 4, 5] (dCons (dBin bAdd (dC (.int 1)) (dCallC m__law_roll (dCons (dVar 0) (dCons (dC (.int 3)) dNil)))) (dCons (dBin bAdd (dC (.int 1)) (dCallC m__law_roll (dCons (dVar 0) (dCons (dC (.int 3)) dNil)))) (dCons (dBin bAdd (dC (.int 1)) (dCallC m__law_roll (dCons (dVar 0) (dCons (dC (.int 2)) dNil)))) (dCons (dBin bAdd (dC (.int 1)) (dCallC m__law_roll (dCons (dVar 0) (dCons (dC (.int 2)) dNil)))) dNil))))) (dSeq (dPar [6, 7] (dCons (dCallC m__law_pattern (dCons (dVar 0) (dCons (dVar 2) (dCons (dVar 3) dNil)))) (dCons (dCallC m__law_pattern (dCons (dVar 0) (dCons (dVar 4) (dCons (dVar 5) dNil)))) dNil))) (dSeq (dPar [8, 9] (dCons (dCall m_woven (dCons (dVar 1) (dCons (dVar 2) (dCons (dVar 3) (dCons (dVar 6) dNil))))) (dCons (dCall m_woven (dCons (dVar 6) (dCons (dVar 4) (dCons (dVar 5) (dCons (dVar 7) dNil))))) dNil))) (dSeq (dSet 10 (dCall m_woven (dCons (dVar 8) (dCons (dVar 4) (dCons (dVar 5) (dCons (dVar 7) dNil)))))) (dSeq (dIfS (dOrT (dNotT (dTruT (dCall (m__law_same 8) (dCons (dVar 10) (dCons (dCall m_woven (dCons (dVar 1) (dCons (dBin bMul (dVar 2) (dVar 4)) (dCons (dBin bMul (dVar 3) (dVar 5)) (dCons (dVar 9) dNil))))) dNil))))) (dCmpT cNe (dB1 bLen (dVar 10)) (dBin bMul (dBin bMul (dB1 bLen (dVar 1)) (dB1 bLen (dVar 6))) (dB1 bLen (dVar 7))))) (dRet (dC (.bool false))) dNx) (dSeq (dSet 11 (dTup (dCons (dCall m_unwoven (dCons (dVar 10) (dCons (dVar 4) (dCons (dVar 5) dNil)))) (dCons (dCall m_unwoven (dCons (dVar 10) (dCons (dBin bMul (dVar 2) (dVar 4)) (dCons (dBin bMul (dVar 3) (dVar 5)) dNil)))) (dCons (dCall m_unwoven (dCons (dVar 8) (dCons (dVar 2) (dCons (dVar 3) dNil)))) dNil))))) (dSeq (dIfS (dNotT (dTruT (dCall (m__law_same 8) (dCons (dVar 11) (dCons (dTup (dCons (dTup (dCons (dVar 8) (dCons (dVar 7) dNil))) (dCons (dTup (dCons (dVar 1) (dCons (dVar 9) dNil))) (dCons (dTup (dCons (dVar 1) (dCons (dVar 6) dNil))) dNil)))) dNil))))) (dRet (dC (.bool false))) dNx) (dSeq (dSet 11 (dTup (dCons (dCall m_is_woven (dCons (dVar 10) (dCons (dVar 4) (dCons (dVar 5) (dCons (dTup (dCons (dVar 8) (dCons (dVar 7) dNil))) dNil))))) (dCons (dCall m_is_woven (dCons (dVar 10) (dCons (dBin bMul (dVar 2) (dVar 4)) (dCons (dBin bMul (dVar 3) (dVar 5)) (dCons (dTup (dCons (dVar 1) (dCons (dVar 9) dNil))) dNil))))) dNil)))) (dSeq (dSet 12 (dB1 bTuple (dLc (dItems (dVar 8)) (gTup 2 (gCons (gN 13) (gCons (gN 14) gNil))) dYes (dTup (dCons (dVar 13) (dCons (dBin bAdd (dVar 14) (dC (.int 1))) dNil))) [13, 14]))) (dSeq (dIfS (dOrT (dNotT (dTruT (dCall (m__law_same 8) (dCons (dVar 11) (dCons (dTup (dCons (dC (.bool true)) (dCons (dC (.bool true)) dNil))) dNil))))) (dCmpT cIsNot (dCall m_is_woven (dCons (dVar 10) (dCons (dVar 4) (dCons (dVar 5) (dCons (dTup (dCons (dVar 12) (dCons (dVar 7) dNil))) dNil))))) (dC (.bool false)))) (dRet (dC (.bool false))) dNx) (dSeq (dIfS (dCmpT cIsNot (dCall m_is_woven (dCons (dVar 10) (dCons (dVar 4) (dCons (dVar 5) (dCons (dTup (dCons (dVar 8) (dCons (dBin bAdd (dCut (dVar 7) dNo (dPart (dNeg (dC (.int 1))))) (dTup (dCons (dTup (dCons (dC (.int 59)) (dCons (dC (.int 59)) dNil))) dNil))) dNil))) dNil))))) (dC (.bool false))) (dRet (dC (.bool false))) dNx) (dSeq (dSet 15 (dTup (dCons (dBin bAdd (dB1 bMaxA (dLc (dItems (dVar 10)) (gTup 2 (gCons (gN 13) (gCons (gN 14) gNil))) dYes (dVar 13) [13, 14])) (dC (.int 1))) (dCons (dBin bAdd (dB1 bMaxA (dLc (dItems (dVar 10)) (gTup 2 (gCons (gN 13) (gCons (gN 14) gNil))) dYes (dVar 14) [13, 14])) (dC (.int 1))) dNil)))) (dSeq (dFor (dItems (dTup (dCons (dTup (dCons (dVar 4) (dCons (dVar 5) dNil))) (dCons (dTup (dCons (dBin bMul (dVar 2) (dVar 4)) (dCons (dBin bMul (dVar 3) (dVar 5)) dNil))) dNil)))) (gN 16) l1__law_three_right [16, 17]) (dRet (dC (.bool true))))))))))))))))
def m__law_three_right : FC := fun cd ds => if ds.length + 1 = 2 then semC 18 b__law_three_right cd ds else none
abbrev s_law : Stmt := topS 41
theorem sc_law : FnScope ["script", "cup", "turn", "floor", "one", "other", "great", "told", "high", "wide", "row", "column", "small", "here", "more"] ["script"] (defScope s_law) := ⟨rfl, rfl, rfl, by decide +kernel, rfl, by decide +kernel, by decide +kernel⟩
def l1_law : DS := (dSeq (dSet 3 (dCallC m__law_floor (dCons (dVar 1) (dCons (dC (.int 6)) (dCons (dC (.int 4)) dNil))))) (dSeq (dIfS (dNotT (dTruT (dCallC m__law_three_right (dCons (dVar 1) (dCons (dVar 3) dNil))))) (dRet (dC (.bool false))) dNx) (dSeq (dPar [4, 5] (dCons (dBin bAdd (dC (.int 1)) (dCallC m__law_roll (dCons (dVar 1) (dCons (dC (.int 3)) dNil)))) (dCons (dBin bAdd (dC (.int 1)) (dCallC m__law_roll (dCons (dVar 1) (dCons (dC (.int 2)) dNil)))) dNil))) (dSeq (dSet 6 (dCall m_enlarged (dCons (dVar 3) (dCons (dVar 4) dNil)))) (dSeq (dSet 7 (dTup (dCons (dCall m_enlarged (dCons (dVar 6) (dCons (dVar 5) dNil))) (dCons (dCall m_woven (dCons (dVar 3) (dCons (dVar 4) (dCons (dVar 4) (dCons (dCall m__law_box (dCons (dVar 4) (dCons (dVar 4) dNil))) dNil))))) (dCons (dCall m_lessened (dCons (dCall m_enlarged (dCons (dVar 6) (dCons (dVar 5) dNil))) (dCons (dVar 5) dNil))) dNil))))) (dSeq (dIfS (dNotT (dTruT (dCall (m__law_same 8) (dCons (dVar 7) (dCons (dTup (dCons (dCall m_enlarged (dCons (dVar 3) (dCons (dBin bMul (dVar 4) (dVar 5)) dNil))) (dCons (dVar 6) (dCons (dVar 6) dNil)))) dNil))))) (dRet (dC (.bool false))) dNx) (dSeq (dPar [8, 9] (dCons (dBin bAdd (dB1 bMaxA (dLc (dItems (dVar 3)) (gTup 2 (gCons (gN 10) (gCons (gN 11) gNil))) dYes (dVar 10) [10, 11])) (dC (.int 1))) (dCons (dBin bAdd (dB1 bMaxA (dLc (dItems (dVar 3)) (gTup 2 (gCons (gN 10) (gCons (gN 11) gNil))) dYes (dVar 11) [10, 11])) (dC (.int 1))) dNil))) (dSeq (dSet 12 (dCut (dVar 3) dNo (dPart (dC (.int 3))))) (dSeq (dSet 13 (dCall m_woven_times (dCons (dVar 12) (dCons (dVar 8) (dCons (dVar 9) (dCons (dC (.int 2)) dNil)))))) (dSeq (dSet 7 (dTup (dCons (dCall m_woven_times (dCons (dVar 12) (dCons (dVar 8) (dCons (dVar 9) (dCons (dC (.int 1)) dNil))))) (dCons (dVar 13) (dCons (dCall m_unwoven (dCons (dVar 13) (dCons (dVar 8) (dCons (dVar 9) dNil)))) dNil))))) (dSeq (dIfS (dNotT (dTruT (dCall (m__law_same 8) (dCons (dVar 7) (dCons (dTup (dCons (dVar 12) (dCons (dCall m_woven (dCons (dVar 12) (dCons (dVar 8) (dCons (dVar 9) (dCons (dVar 12) dNil))))) (dCons (dTup (dCons (dVar 12) (dCons (dVar 12) dNil))) dNil)))) dNil))))) (dRet (dC (.bool false))) dNx) (dIfS (dAndT (dCmpT cLt (dVar 8) (dC (.int 4))) (dCmpT cLt (dVar 9) (dC (.int 4)))) (dSeq (dSet 14 (dCall m_woven (dCons (dVar 13) (dCons (dVar 8) (dCons (dVar 9) (dCons (dVar 12) dNil)))))) (dIfS (dNotT (dTruT (dCall (m__law_same 8) (dCons (dTup (dCons (dCall m_woven_times (dCons (dVar 12) (dCons (dVar 8) (dCons (dVar 9) (dCons (dC (.int 3)) dNil))))) (dCons (dCall m_woven (dCons (dVar 12) (dCons (dBin bMul (dVar 8) (dVar 8)) (dCons (dBin bMul (dVar 9) (dVar 9)) (dCons (dVar 13) dNil))))) dNil))) (dCons (dTup (dCons (dVar 14) (dCons (dVar 14) dNil))) dNil))))) (dRet (dC (.bool false))) dNx)) dNx))))))))))))
def b_law : DS := (dSeq (dIfS (dNotT (dTruT (dCall m__law_rows_right dNil))) (dRet (dC (.bool false))) dNx) (dSeq (dFor (dRg1 (dC (.int 4))) (gN 2) l1_law [2, 3, 4, 5, 6, 7, 8, 9, 10, 11, 12, 13, 14]) (dRet (dC (.bool true)))))
/-! ### what the top has written -/
structure Txt (K : PySem.W.Frag) (mg : Str → Option Value) where
  f_fits_whole : Addr
  fd_fits_whole : FuncData
  F_fits_whole : Fun K "fits_whole" "fits_whole" s_fits_whole f_fits_whole fd_fits_whole
  b_fits_whole : L2.Binds K fd_fits_whole ["value", "low", "high"] []
  g_fits_whole : mg "fits_whole" = some (.ref f_fits_whole)
  f_is_tuple_of : Addr
  fd_is_tuple_of : FuncData
  F_is_tuple_of : Fun K "is_tuple_of" "is_tuple_of" s_is_tuple_of f_is_tuple_of fd_is_tuple_of
  b_is_tuple_of : L2.Binds K fd_is_tuple_of ["value", "least", "most"] []
  g_is_tuple_of : mg "is_tuple_of" = some (.ref f_is_tuple_of)
  f_box_in : Addr
  fd_box_in : FuncData
  F_box_in : Fun K "box_in" "box_in" s_box_in f_box_in fd_box_in
  b_box_in : L2.Binds K fd_box_in ["cells"] []
  g_box_in : mg "box_in" = some (.ref f_box_in)
  f_full_block : Addr
  fd_full_block : FuncData
  F_full_block : Fun K "full_block" "full_block" s_full_block f_full_block fd_full_block
  b_full_block : L2.Binds K fd_full_block ["times"] []
  g_full_block : mg "full_block" = some (.ref f_full_block)
  f_woven_in : Addr
  fd_woven_in : FuncData
  F_woven_in : Fun K "woven_in" "woven_in" s_woven_in f_woven_in fd_woven_in
  b_woven_in : L2.Binds K fd_woven_in ["cells", "pattern", "high", "wide"] []
  g_woven_in : mg "woven_in" = some (.ref f_woven_in)
  f_power_in : Addr
  fd_power_in : FuncData
  F_power_in : Fun K "power_in" "power_in" s_power_in f_power_in fd_power_in
  b_power_in : L2.Binds K fd_power_in ["number", "times"] []
  g_power_in : mg "power_in" = some (.ref f_power_in)
  f_need_fit : Addr
  fd_need_fit : FuncData
  F_need_fit : Fun K "need_fit" "need_fit" s_need_fit f_need_fit fd_need_fit
  b_need_fit : L2.Binds K fd_need_fit ["cells"] []
  g_need_fit : mg "need_fit" = some (.ref f_need_fit)
  f_blocks_of : Addr
  fd_blocks_of : FuncData
  F_blocks_of : Fun K "blocks_of" "blocks_of" s_blocks_of f_blocks_of fd_blocks_of
  b_blocks_of : L2.Binds K fd_blocks_of ["floor", "high", "wide"] []
  g_blocks_of : mg "blocks_of" = some (.ref f_blocks_of)
  f__law_cup : Addr
  fd__law_cup : FuncData
  F__law_cup : Fun K "_law_cup" "_law_cup" s__law_cup f__law_cup fd__law_cup
  b__law_cup : L2.Binds K fd__law_cup ["script"] []
  g__law_cup : mg "_law_cup" = some (.ref f__law_cup)
  f__law_roll : Addr
  fd__law_roll : FuncData
  F__law_roll : Fun K "_law_roll" "_law_roll" s__law_roll f__law_roll fd__law_roll
  b__law_roll : L2.Binds K fd__law_roll ["cup", "many"] []
  g__law_roll : mg "_law_roll" = some (.ref f__law_roll)
  f__law_box : Addr
  fd__law_box : FuncData
  F__law_box : Fun K "_law_box" "_law_box" s__law_box f__law_box fd__law_box
  b__law_box : L2.Binds K fd__law_box ["high", "wide"] []
  g__law_box : mg "_law_box" = some (.ref f__law_box)
  f_fits_cell : Addr
  fd_fits_cell : FuncData
  F_fits_cell : Fun K "fits_cell" "fits_cell" s_fits_cell f_fits_cell fd_fits_cell
  b_fits_cell : L2.Binds K fd_fits_cell ["value"] []
  g_fits_cell : mg "fits_cell" = some (.ref f_fits_cell)
  f_coarse_in : Addr
  fd_coarse_in : FuncData
  F_coarse_in : Fun K "coarse_in" "coarse_in" s_coarse_in f_coarse_in fd_coarse_in
  b_coarse_in : L2.Binds K fd_coarse_in ["floor", "times", "least"] []
  g_coarse_in : mg "coarse_in" = some (.ref f_coarse_in)
  f__law_floor : Addr
  fd__law_floor : FuncData
  F__law_floor : Fun K "_law_floor" "_law_floor" s__law_floor f__law_floor fd__law_floor
  b__law_floor : L2.Binds K fd__law_floor ["cup", "many", "side"] []
  g__law_floor : mg "_law_floor" = some (.ref f__law_floor)
  f__law_pattern : Addr
  fd__law_pattern : FuncData
  F__law_pattern : Fun K "_law_pattern" "_law_pattern" s__law_pattern f__law_pattern fd__law_pattern
  b__law_pattern : L2.Binds K fd__law_pattern ["cup", "high", "wide"] []
  g__law_pattern : mg "_law_pattern" = some (.ref f__law_pattern)
  f_fits_floor : Addr
  fd_fits_floor : FuncData
  F_fits_floor : Fun K "fits_floor" "fits_floor" s_fits_floor f_fits_floor fd_fits_floor
  b_fits_floor : L2.Binds K fd_fits_floor ["value"] []
  g_fits_floor : mg "fits_floor" = some (.ref f_fits_floor)
  f_need_floor : Addr
  fd_need_floor : FuncData
  F_need_floor : Fun K "need_floor" "need_floor" s_need_floor f_need_floor fd_need_floor
  b_need_floor : L2.Binds K fd_need_floor ["floor"] []
  g_need_floor : mg "need_floor" = some (.ref f_need_floor)
  f_need_scale : Addr
  fd_need_scale : FuncData
  F_need_scale : Fun K "need_scale" "need_scale" s_need_scale f_need_scale fd_need_scale
  b_need_scale : L2.Binds K fd_need_scale ["floor", "times"] []
  g_need_scale : mg "need_scale" = some (.ref f_need_scale)
  f_need_block : Addr
  fd_need_block : FuncData
  F_need_block : Fun K "need_block" "need_block" s_need_block f_need_block fd_need_block
  b_need_block : L2.Binds K fd_need_block ["floor", "high", "wide"] []
  g_need_block : mg "need_block" = some (.ref f_need_block)
  f_enlarged : Addr
  fd_enlarged : FuncData
  F_enlarged : Fun K "enlarged" "enlarged" s_enlarged f_enlarged fd_enlarged
  b_enlarged : L2.Binds K fd_enlarged ["floor", "times"] []
  g_enlarged : mg "enlarged" = some (.ref f_enlarged)
  f_lessened : Addr
  fd_lessened : FuncData
  F_lessened : Fun K "lessened" "lessened" s_lessened f_lessened fd_lessened
  b_lessened : L2.Binds K fd_lessened ["floor", "times"] []
  g_lessened : mg "lessened" = some (.ref f_lessened)
  f_need_pattern : Addr
  fd_need_pattern : FuncData
  F_need_pattern : Fun K "need_pattern" "need_pattern" s_need_pattern f_need_pattern fd_need_pattern
  b_need_pattern : L2.Binds K fd_need_pattern ["floor", "high", "wide", "pattern"] []
  g_need_pattern : mg "need_pattern" = some (.ref f_need_pattern)
  f_unwoven : Addr
  fd_unwoven : FuncData
  F_unwoven : Fun K "unwoven" "unwoven" s_unwoven f_unwoven fd_unwoven
  b_unwoven : L2.Binds K fd_unwoven ["floor", "high", "wide"] []
  g_unwoven : mg "unwoven" = some (.ref f_unwoven)
  f_is_woven : Addr
  fd_is_woven : FuncData
  F_is_woven : Fun K "is_woven" "is_woven" s_is_woven f_is_woven fd_is_woven
  b_is_woven : L2.Binds K fd_is_woven ["floor", "high", "wide", "value"] []
  g_is_woven : mg "is_woven" = some (.ref f_is_woven)
  f_woven : Addr
  fd_woven : FuncData
  F_woven : Fun K "woven" "woven" s_woven f_woven fd_woven
  b_woven : L2.Binds K fd_woven ["floor", "high", "wide", "pattern"] []
  g_woven : mg "woven" = some (.ref f_woven)
  f_woven_times : Addr
  fd_woven_times : FuncData
  F_woven_times : Fun K "woven_times" "woven_times" s_woven_times f_woven_times fd_woven_times
  b_woven_times : L2.Binds K fd_woven_times ["floor", "high", "wide", "many"] []
  g_woven_times : mg "woven_times" = some (.ref f_woven_times)
  f_weaves_of : Addr
  fd_weaves_of : FuncData
  F_weaves_of : Fun K "weaves_of" "weaves_of" s_weaves_of f_weaves_of fd_weaves_of
  b_weaves_of : L2.Binds K fd_weaves_of ["floor"] []
  g_weaves_of : mg "weaves_of" = some (.ref f_weaves_of)
  f__law_same : Addr
  fd__law_same : FuncData
  F__law_same : Fun K "_law_same" "_law_same" s__law_same f__law_same fd__law_same
  b__law_same : L2.Binds K fd__law_same ["told", "due"] []
  g__law_same : mg "_law_same" = some (.ref f__law_same)
  f__law_rows_right : Addr
  fd__law_rows_right : FuncData
  F__law_rows_right : Fun K "_law_rows_right" "_law_rows_right" s__law_rows_right f__law_rows_right fd__law_rows_right
  b__law_rows_right : L2.Binds K fd__law_rows_right [] []
  g__law_rows_right : mg "_law_rows_right" = some (.ref f__law_rows_right)
  f__law_three_right : Addr
  fd__law_three_right : FuncData
  F__law_three_right : Fun K "_law_three_right" "_law_three_right" s__law_three_right f__law_three_right fd__law_three_right
  b__law_three_right : L2.Binds K fd__law_three_right ["cup", "floor"] []
  g__law_three_right : mg "_law_three_right" = some (.ref f__law_three_right)
  f_law : Addr
  fd_law : FuncData
  F_law : Fun K "law" "law" s_law f_law fd_law
  b_law : L2.Binds K fd_law ["script"] []
  g_law : mg "law" = some (.ref f_law)
  z_abs : mg "abs" = none
  z_all : mg "all" = none
  z_bool : mg "bool" = none
  z_int : mg "int" = none
  z_isinstance : mg "isinstance" = none
  z_len : mg "len" = none
  z_list : mg "list" = none
  z_max : mg "max" = none
  z_min : mg "min" = none
  z_range : mg "range" = none
  z_set : mg "set" = none
  z_sorted : mg "sorted" = none
  z_str : mg "str" = none
  z_tuple : mg "tuple" = none
  z_zip : mg "zip" = none
  t_CELLS : Tok
  g_CELLS : mg "CELLS" = some (.int (400) t_CELLS)
  t_SIDE : Tok
  g_SIDE : mg "SIDE" = some (.int (60) t_SIDE)
section
variable {P : Program} {w : World} {K : PySem.W.Frag} {mg : Str → Option Value} {base : Heap}
theorem ok_fits_whole (T : Txt K mg) : FnOk P w K mg base CX0 1 T.f_fits_whole T.fd_fits_whole ["value", "low", "high"] (spD K m_fits_whole) := by
  refine fnD (k := 0) T.F_fits_whole sc_fits_whole b_fits_whole (fun cdv A outer s H E hr => ?_) m_fits_whole (fun ds hl x h => ?_) (fun ds x h => ?_)
  · exact (pssd_one (psd_ret (ped_and (ped_isi (by rfl) T.z_isinstance (by rfl) T.z_int (by decide +kernel) (by decide) (pd_var 0 (pv 0))) (ped_and (ped_not (ped_isi (by rfl) T.z_isinstance (by rfl) T.z_bool (by decide +kernel) (by decide) (pd_var 0 (pv 0)))) (ped_one (pd_chain c2_le c2_le (pd_var 1 (pv 1)) (pd_var 0 (pv 0)) (pd_var 2 (pv 2))))))))
  · have h2 : _ = some x := (if_pos (show ds.length = 3 from hl)).symm.trans h; exact h2
  · unfold m_fits_whole at h; split at h; · assumption
    · cases h
theorem ok_is_tuple_of (T : Txt K mg) : FnOk P w K mg base CX0 1 T.f_is_tuple_of T.fd_is_tuple_of ["value", "least", "most"] (spD K m_is_tuple_of) := by
  refine fnD (k := 0) T.F_is_tuple_of sc_is_tuple_of b_is_tuple_of (fun cdv A outer s H E hr => ?_) m_is_tuple_of (fun ds hl x h => ?_) (fun ds x h => ?_)
  · exact (pssd_one (psd_ret (ped_and (ped_isi (by rfl) T.z_isinstance (by rfl) T.z_tuple (by decide +kernel) (by decide) (pd_var 0 (pv 0))) (ped_one (pd_chain c2_le c2_le (pd_var 1 (pv 1)) (ped_b1 b1_len (by rfl) T.z_len (by decide +kernel) (pd_var 0 (pv 0))) (pd_var 2 (pv 2)))))))
  · have h2 : _ = some x := (if_pos (show ds.length = 3 from hl)).symm.trans h; exact h2
  · unfold m_is_tuple_of at h; split at h; · assumption
    · cases h
theorem ok_box_in (T : Txt K mg) : FnOk P w K mg base CX0 1 T.f_box_in T.fd_box_in ["cells"] (spD K m_box_in) := by
  refine fnD (k := 0) T.F_box_in sc_box_in b_box_in (fun cdv A outer s H E hr => ?_) m_box_in (fun ds hl x h => ?_) (fun ds x h => ?_)
  · exact (pssd_cons (psd_par2 (i := 1) (j := 2) (by rfl) sc_box_in.nd (by rfl) (by rfl) (by decide) (by rfl) (by rfl) (pad_cons (ped_lc (own := [("row", 3), ("column", 4)]) (by rfl) sc_box_in.nd (pid_seq (pd_var 0 (pv 0))) (blkOk_by (by kernel_rfl)) (fun _ _ _ _ _ => (pgd_tup (by rfl) (pgsd_cons (pgd_name (pgn sc_box_in.nd 3)) (pgsd_cons (pgd_name (pgn sc_box_in.nd 4)) pgsd_nil)))) (fun _ _ _ _ _ => ptsd_nil) (fun _ _ _ _ _ => (pd_var 3 (pv 3)))) (pad_cons (ped_lc (own := [("row", 3), ("column", 4)]) (by rfl) sc_box_in.nd (pid_seq (pd_var 0 (pv 0))) (blkOk_by (by kernel_rfl)) (fun _ _ _ _ _ => (pgd_tup (by rfl) (pgsd_cons (pgd_name (pgn sc_box_in.nd 3)) (pgsd_cons (pgd_name (pgn sc_box_in.nd 4)) pgsd_nil)))) (fun _ _ _ _ _ => ptsd_nil) (fun _ _ _ _ _ => (pd_var 4 (pv 4)))) pad_nil))) (pssd_one (psd_ret (ped_tup (pad_cons (ped_b1 (b1_minA (by rfl) hr.u64) (by rfl) T.z_min (by decide +kernel) (pd_var 1 (pv 1))) (pad_cons (ped_b1 (b1_minA (by rfl) hr.u64) (by rfl) T.z_min (by decide +kernel) (pd_var 2 (pv 2))) (pad_cons (ped_b1 (b1_maxA (by rfl) hr.u64) (by rfl) T.z_max (by decide +kernel) (pd_var 1 (pv 1))) (pad_cons (ped_b1 (b1_maxA (by rfl) hr.u64) (by rfl) T.z_max (by decide +kernel) (pd_var 2 (pv 2))) pad_nil))))))))
  · have h2 : _ = some x := (if_pos (show ds.length = 1 from hl)).symm.trans h; exact h2
  · unfold m_box_in at h; split at h; · assumption
    · cases h
theorem ok_full_block (T : Txt K mg) : FnOk P w K mg base CX0 1 T.f_full_block T.fd_full_block ["times"] (spD K m_full_block) := by
  refine fnD (k := 0) T.F_full_block sc_full_block b_full_block (fun cdv A outer s H E hr => ?_) m_full_block (fun ds hl x h => ?_) (fun ds x h => ?_)
  · exact (pssd_one (psd_ret (ped_lc2 (own := [("row", 1), ("column", 2)]) (by rfl) sc_full_block.nd (PD.pid_range1 (by rfl) T.z_range (pd_var 0 (pv 0))) (blkOk_by (by kernel_rfl)) (fun _ _ _ _ _ => (pgd_name (pgn sc_full_block.nd 1))) (fun _ _ _ _ _ => ptsd_nil) (fun _ _ _ _ _ => (PD.pid_range1 (by rfl) T.z_range (pd_var 0 (pv 0)))) (fun _ _ _ _ _ => (pgd_name (pgn sc_full_block.nd 2))) (fun _ _ _ _ _ => ptsd_nil) (fun _ _ _ _ _ => (ped_tup (pad_cons (pd_var 1 (pv 1)) (pad_cons (pd_var 2 (pv 2)) pad_nil)))) [2])))
  · have h2 : _ = some x := (if_pos (show ds.length = 1 from hl)).symm.trans h; exact h2
  · unfold m_full_block at h; split at h; · assumption
    · cases h
theorem ok_woven_in (T : Txt K mg) : FnOk P w K mg base CX0 1 T.f_woven_in T.fd_woven_in ["cells", "pattern", "high", "wide"] (spD K m_woven_in) := by
  refine fnD (k := 0) T.F_woven_in sc_woven_in b_woven_in (fun cdv A outer s H E hr => ?_) m_woven_in (fun ds hl x h => ?_) (fun ds x h => ?_)
  · exact (pssd_cons (psd_set (i := 4) sc_woven_in.nd (by rfl) (by first | exact .inl rfl | exact .inr rfl) (ped_lst pad_nil)) (pssd_cons (psd_for PassesOwn.never (by rfl) (pid_seq (pd_var 0 (pv 0))) (pgd_tup (by rfl) (pgsd_cons (pgd_name (pgn sc_woven_in.nd 5)) (pgsd_cons (pgd_name (pgn sc_woven_in.nd 6)) pgsd_nil))) (fb := l1_woven_in) (pssd_one (psd_augL (i := 4) sc_woven_in.nd (by rfl) (by first | exact .inl rfl | exact .inr rfl) (ped_lc (own := [("down", 7), ("right", 8)]) (by rfl) sc_woven_in.nd (pid_seq (pd_var 1 (pv 1))) (blkOk_by (by kernel_rfl)) (fun _ _ _ _ _ => (pgd_tup (by rfl) (pgsd_cons (pgd_name (pgn sc_woven_in.nd 7)) (pgsd_cons (pgd_name (pgn sc_woven_in.nd 8)) pgsd_nil)))) (fun _ _ _ _ _ => ptsd_nil) (fun _ _ _ _ _ => (ped_tup (pad_cons (pd_bin f2_add (pd_bin f2_mul (pd_var 5 (pv 5)) (pd_var 2 (pv 2))) (pd_var 7 (pv 7))) (pad_cons (pd_bin f2_add (pd_bin f2_mul (pd_var 6 (pv 6)) (pd_var 3 (pv 3))) (pd_var 8 (pv 8))) pad_nil))))))) [5, 6, 7, 8]) (pssd_one (psd_ret (ped_b1 (b1_sortA (by rfl)) (by rfl) T.z_sorted (by decide +kernel) (pd_var 4 (pv 4)))))))
  · have h2 : _ = some x := (if_pos (show ds.length = 4 from hl)).symm.trans h; exact h2
  · unfold m_woven_in at h; split at h; · assumption
    · cases h
theorem ok_power_in (T : Txt K mg) : FnOk P w K mg base CX0 1 T.f_power_in T.fd_power_in ["number", "times"] (spD K m_power_in) := by
  refine fnD (k := 0) T.F_power_in sc_power_in b_power_in (fun cdv A outer s H E hr => ?_) m_power_in (fun ds hl x h => ?_) (fun ds x h => ?_)
  · exact (pssd_cons (psd_set (i := 2) sc_power_in.nd (by rfl) (by first | exact .inl rfl | exact .inr rfl) pd_int) (pssd_cons (psd_for PassesOwn.never (by rfl) (PD.pid_range1 (by rfl) T.z_range (pd_var 1 (pv 1))) (pgd_name (pgn sc_power_in.nd 3)) (fb := l1_power_in) (pssd_one (psd_set (i := 2) sc_power_in.nd (by rfl) (by first | exact .inl rfl | exact .inr rfl) (pd_bin f2_mul (pd_var 2 (pv 2)) (pd_var 0 (pv 0))))) [3]) (pssd_one (psd_ret (pd_var 2 (pv 2))))))
  · have h2 : _ = some x := (if_pos (show ds.length = 2 from hl)).symm.trans h; exact h2
  · unfold m_power_in at h; split at h; · assumption
    · cases h
theorem ok_need_fit (T : Txt K mg) : FnOk P w K mg base CX0 1 T.f_need_fit T.fd_need_fit ["cells"] (spD K m_need_fit) := by
  refine fnD (k := 0) T.F_need_fit sc_need_fit b_need_fit (fun cdv A outer s H E hr => ?_) m_need_fit (fun ds hl x h => ?_) (fun ds x h => ?_)
  · exact (pssd_cons (psd_if (PD.pt_cmp c2_gt (ped_b1 b1_len (by rfl) T.z_len (by decide +kernel) (pd_var 0 (pv 0))) (pd_gint (by rfl) T.g_CELLS) (by rfl)) (pssd_one psd_never) pssd_nil) (pssd_one (psd_if (PD.pt_cmp c2_gt (ped_b1 (b1_maxA (by rfl) hr.u64) (by rfl) T.z_max (by decide +kernel) (ped_lc (own := [("cell", 1)]) (by rfl) sc_need_fit.nd (pid_seq (pd_var 0 (pv 0))) (blkOk_by (by kernel_rfl)) (fun _ _ _ _ _ => (pgd_name (pgn sc_need_fit.nd 1))) (fun _ _ _ _ _ => ptsd_nil) (fun _ _ _ _ _ => (ped_b1 (b1_maxA (by rfl) hr.u64) (by rfl) T.z_max (by decide +kernel) (pd_var 1 (pv 1)))))) (pd_bin f2_sub (pd_gint (by rfl) T.g_SIDE) pd_int) (by rfl)) (pssd_one psd_never) pssd_nil)))
  · have h2 : _ = some x := (if_pos (show ds.length = 1 from hl)).symm.trans h; exact h2
  · unfold m_need_fit at h; split at h; · assumption
    · cases h
theorem ok_blocks_of (T : Txt K mg) : FnOk P w K mg base CX0 1 T.f_blocks_of T.fd_blocks_of ["floor", "high", "wide"] (spD K m_blocks_of) := by
  refine fnD (k := 0) T.F_blocks_of sc_blocks_of b_blocks_of (fun cdv A outer s H E hr => ?_) m_blocks_of (fun ds hl x h => ?_) (fun ds x h => ?_)
  · exact (pssd_grp hr.u1 PassesOwn.never (by rfl) sc_blocks_of.nd 3 6 (by rfl) (by rfl) (by first | exact .inl rfl | exact .inr rfl) (by first | exact .inl rfl | exact .inr rfl) (pid_seq (pd_var 0 (pv 0))) (pgd_tup (by rfl) (pgsd_cons (pgd_name (pgn sc_blocks_of.nd 4)) (pgsd_cons (pgd_name (pgn sc_blocks_of.nd 5)) pgsd_nil))) (ped_tup (pad_cons (pd_bin f2_div (pd_var 4 (pv 4)) (pd_var 1 (pv 1))) (pad_cons (pd_bin f2_div (pd_var 5 (pv 5)) (pd_var 2 (pv 2))) pad_nil))) (pv 3) (pd_var 6 (pv 6)) (ped_lst pad_nil) (ped_tup (pad_cons (pd_bin f2_sub (pd_var 4 (pv 4)) (pd_bin f2_mul (ped_ix hr.u1 (pd_var 6 (pv 6)) pd_int) (pd_var 1 (pv 1)))) (pad_cons (pd_bin f2_sub (pd_var 5 (pv 5)) (pd_bin f2_mul (ped_ix hr.u1 (pd_var 6 (pv 6)) pd_int) (pd_var 2 (pv 2)))) pad_nil))) (pssd_one (psd_ret (pd_var 3 (pv 3)))) [4, 5, 6])
  · have h2 : _ = some x := (if_pos (show ds.length = 3 from hl)).symm.trans h; exact h2
  · unfold m_blocks_of at h; split at h; · assumption
    · cases h
theorem ok__law_cup (T : Txt K mg) (hs : ∀ c : Int, 0 ≤ c → ∃ x y ρ, b__law_cup (En.only 2 1 (.sh (.int c))) = some (.rt (.fr (.list [.int x, .int y])) ρ) ∧ 0 ≤ x ∧ 0 ≤ y ∧ y < 10000000000) : FnOk P w K mg base CX0 1 T.f__law_cup T.fd__law_cup ["script"] (spCup K) :=
  cup_fn (k := 0) T.F__law_cup sc__law_cup rfl b__law_cup _ _ rfl (fun cdv A outer s H E hr => ⟨ps_set (i := 1) sc__law_cup.nd (by rfl) (.inl rfl) (pe_first (by rfl) (by rfl) T.z_abs T.z_list (pv 0)), (pssd_one (psd_ret (ped_lst (pad_cons (ped_if (PD.pt_cmp c2_ge (pd_var 1 (pv 1)) (pd_bin f2_pow pd_int pd_int) (by rfl)) (pd_bin f2_div (pd_var 1 (pv 1)) pd_int) pd_int) (pad_cons (pd_bin f2_add (pd_bin f2_mod (ped_t1 b1_int (by rfl) T.z_int (by decide +kernel) (pd_bin f2_add (pd_bin f2_mul (pd_var 1 (pv 1)) pd_int) pd_int)) pd_int) pd_int) pad_nil)))))⟩) hs
theorem ok__law_roll (T : Txt K mg) : FnOk P w K mg base CX0 1 T.f__law_roll T.fd__law_roll ["cup", "many"] (spC K m__law_roll) := by
  refine fnC (k := 0) T.F__law_roll sc__law_roll b__law_roll (by decide) (fun cdv A outer s H E hr => ?_) m__law_roll (fun cd ds hl x h => ?_) (fun cd ds x h => ?_)
  · exact (pssd_cons (psd_if (PD.pt_cmp c2_gt (ped_ix hr.u1 (pd_var 0 (pv 0)) pd_int) pd_int (by rfl)) (pssd_cons (psd_set (i := 2) sc__law_roll.nd (by rfl) (by first | exact .inl rfl | exact .inr rfl) (pd_bin f2_mod (ped_t1 b1_int (by rfl) T.z_int (by decide +kernel) (ped_ix hr.u1 (pd_var 0 (pv 0)) pd_int)) (pd_var 1 (pv 1)))) (pssd_cons (psd_stIx hr.u1 0 (pv 0) (pd_bin f2_div (ped_ix hr.u1 (pd_var 0 (pv 0)) pd_int) (pd_var 1 (pv 1))) pd_int) (pssd_one (psd_ret (pd_var 2 (pv 2)))))) pssd_nil) (pssd_cons (psd_stIx hr.u1 0 (pv 0) (pd_bin f2_mod (ped_t1 b1_int (by rfl) T.z_int (by decide +kernel) (pd_bin f2_add (pd_bin f2_mul (ped_ix hr.u1 (pd_var 0 (pv 0)) pd_int) pd_int) pd_int)) pd_int) pd_int) (pssd_cons (psd_set (i := 3) sc__law_roll.nd (by rfl) (by first | exact .inl rfl | exact .inr rfl) (pd_bin f2_mod (ped_t1 b1_int (by rfl) T.z_int (by decide +kernel) (pd_bin f2_mul (ped_ix hr.u1 (pd_var 0 (pv 0)) pd_int) (pd_bin f2_add (ped_ix hr.u1 (pd_var 0 (pv 0)) pd_int) pd_int))) pd_int)) (pssd_one (psd_ret (pd_bin f2_mod (ped_t1 b1_int (by rfl) T.z_int (by decide +kernel) (pd_bin f2_div (pd_var 3 (pv 3)) pd_int)) (pd_var 1 (pv 1))))))))
  · have h2 : _ = some x := (if_pos (show ds.length + 1 = 2 from hl)).symm.trans h; exact h2
  · unfold m__law_roll at h; split at h; · assumption
    · cases h
theorem ok__law_box (T : Txt K mg) : FnOk P w K mg base CX0 1 T.f__law_box T.fd__law_box ["high", "wide"] (spD K m__law_box) := by
  refine fnD (k := 0) T.F__law_box sc__law_box b__law_box (fun cdv A outer s H E hr => ?_) m__law_box (fun ds hl x h => ?_) (fun ds x h => ?_)
  · exact (pssd_cons (psd_set (i := 2) sc__law_box.nd (by rfl) (by first | exact .inl rfl | exact .inr rfl) (ped_lst pad_nil)) (pssd_cons (psd_for PassesOwn.never (by rfl) (PD.pid_range1 (by rfl) T.z_range (pd_var 0 (pv 0))) (pgd_name (pgn sc__law_box.nd 3)) (fb := l1__law_box) (pssd_one (psd_set (i := 2) sc__law_box.nd (by rfl) (by first | exact .inl rfl | exact .inr rfl) (pd_bin f2_add (pd_var 2 (pv 2)) (ped_lc (own := [("column", 4)]) (by rfl) sc__law_box.nd (PD.pid_range1 (by rfl) T.z_range (pd_var 1 (pv 1))) (blkOk_by (by kernel_rfl)) (fun _ _ _ _ _ => (pgd_name (pgn sc__law_box.nd 4))) (fun _ _ _ _ _ => ptsd_nil) (fun _ _ _ _ _ => (ped_tup (pad_cons (pd_var 3 (pv 3)) (pad_cons (pd_var 4 (pv 4)) pad_nil)))))))) [3, 4]) (pssd_one (psd_ret (ped_t1 b1_tuple (by rfl) T.z_tuple (by decide +kernel) (pd_var 2 (pv 2)))))))
  · have h2 : _ = some x := (if_pos (show ds.length = 2 from hl)).symm.trans h; exact h2
  · unfold m__law_box at h; split at h; · assumption
    · cases h
theorem ok_fits_cell (T : Txt K mg) : FnOk P w K mg base CX0 2 T.f_fits_cell T.fd_fits_cell ["value"] (spD K m_fits_cell) := by
  refine fnD (k := 1) T.F_fits_cell sc_fits_cell b_fits_cell (fun cdv A outer s H E hr => ?_) m_fits_cell (fun ds hl x h => ?_) (fun ds x h => ?_)
  · exact (pssd_one (psd_ret (ped_and (ped_call (ok_is_tuple_of T) (hr.mono (by decide)) (by rfl) T.g_is_tuple_of T.F_is_tuple_of.kp T.b_is_tuple_of (pad_cons (pd_var 0 (pv 0)) (pad_cons pd_int (pad_cons pd_int pad_nil)))) (ped_one (ped_b1 (b1_all (by rfl)) (by rfl) T.z_all (by decide +kernel) (ped_lc (own := [("place", 1)]) (by rfl) sc_fits_cell.nd (pid_seq (pd_var 0 (pv 0))) (blkOk_by (by kernel_rfl)) (fun _ _ _ _ _ => (pgd_name (pgn sc_fits_cell.nd 1))) (fun _ _ _ _ _ => ptsd_nil) (fun _ _ _ _ _ => (ped_call (ok_fits_whole T) (hr.mono (by decide)) (by rfl) T.g_fits_whole T.F_fits_whole.kp T.b_fits_whole (pad_cons (pd_var 1 (pv 1)) (pad_cons pd_int (pad_cons (pd_bin f2_sub (pd_gint (by rfl) T.g_SIDE) pd_int) pad_nil)))))))))))
  · have h2 : _ = some x := (if_pos (show ds.length = 1 from hl)).symm.trans h; exact h2
  · unfold m_fits_cell at h; split at h; · assumption
    · cases h
theorem ok_coarse_in (T : Txt K mg) : FnOk P w K mg base CX0 2 T.f_coarse_in T.fd_coarse_in ["floor", "times", "least"] (spD K m_coarse_in) := by
  refine fnD (k := 1) T.F_coarse_in sc_coarse_in b_coarse_in (fun cdv A outer s H E hr => ?_) m_coarse_in (fun ds hl x h => ?_) (fun ds x h => ?_)
  · exact (pssd_cons (psd_set (i := 3) sc_coarse_in.nd (by rfl) (by first | exact .inl rfl | exact .inr rfl) (ped_call (ok_blocks_of T) (hr.mono (by decide)) (by rfl) T.g_blocks_of T.F_blocks_of.kp T.b_blocks_of (pad_cons (pd_var 0 (pv 0)) (pad_cons (pd_var 1 (pv 1)) (pad_cons (pd_var 1 (pv 1)) pad_nil))))) (pssd_one (psd_ret (ped_b1 (b1_sortA (by rfl)) (by rfl) T.z_sorted (by decide +kernel) (ped_lcD (own := [("home", 4)]) (by rfl) sc_coarse_in.nd (kind_keys (pv 3)) (blkOk_by (by kernel_rfl)) (fun _ _ _ _ _ => (pgd_name (pgn sc_coarse_in.nd 4))) (fun _ _ _ _ _ => (ptsd_one (PD.pt_cmp c2_ge (ped_b1 b1_len (by rfl) T.z_len (by decide +kernel) (ped_ix hr.u1 (pd_var 3 (pv 3)) (pd_var 4 (pv 4)))) (pd_var 2 (pv 2)) (by rfl)))) (fun _ _ _ _ _ => (pd_var 4 (pv 4))))))))
  · have h2 : _ = some x := (if_pos (show ds.length = 3 from hl)).symm.trans h; exact h2
  · unfold m_coarse_in at h; split at h; · assumption
    · cases h
theorem ok__law_floor (T : Txt K mg) : FnOk P w K mg base CX0 2 T.f__law_floor T.fd__law_floor ["cup", "many", "side"] (spC K m__law_floor) := by
  refine fnC (k := 1) T.F__law_floor sc__law_floor b__law_floor (by decide) (fun cdv A outer s H E hr => ?_) m__law_floor (fun cd ds hl x h => ?_) (fun cd ds x h => ?_)
  · exact (pssd_cons (psd_setLc (i := 3) (own := [("turn", 4)]) (by rfl) sc__law_floor.nd (by rfl) (by rfl) (sw_true rfl rfl rfl (by decide +kernel)) (PD.pid_range1 (by rfl) T.z_range (pd_bin f2_add pd_int (ped_callC (ok__law_roll T) (hr.mono (by decide)) (by rfl) T.g__law_roll T.F__law_roll.kp T.b__law_roll (pad_cons (pd_var 0 (pv 0)) (pad_cons (pd_var 1 (pv 1)) pad_nil))))) (blkOk_by (by kernel_rfl)) (fun _ _ _ _ _ => (pgd_name (pgn sc__law_floor.nd 4))) (fun _ _ _ _ _ => ptsd_nil) (fun _ _ _ _ _ => (ped_tup (pad_cons (ped_callC (ok__law_roll T) (hr.mono (by decide)) (by rfl) T.g__law_roll T.F__law_roll.kp T.b__law_roll (pad_cons (pd_var 0 (pv 0)) (pad_cons (pd_var 2 (pv 2)) pad_nil))) (pad_cons (ped_callC (ok__law_roll T) (hr.mono (by decide)) (by rfl) T.g__law_roll T.F__law_roll.kp T.b__law_roll (pad_cons (pd_var 0 (pv 0)) (pad_cons (pd_var 2 (pv 2)) pad_nil))) pad_nil))))) (pssd_one (psd_ret (ped_t1 b1_tuple (by rfl) T.z_tuple (by decide +kernel) (ped_sortSet (by rfl) hr.units (by rfl) T.z_sorted (by rfl) T.z_set (pd_var 3 (pv 3)))))))
  · have h2 : _ = some x := (if_pos (show ds.length + 1 = 3 from hl)).symm.trans h; exact h2
  · unfold m__law_floor at h; split at h; · assumption
    · cases h
theorem ok__law_pattern (T : Txt K mg) : FnOk P w K mg base CX0 2 T.f__law_pattern T.fd__law_pattern ["cup", "high", "wide"] (spC K m__law_pattern) := by
  refine fnC (k := 1) T.F__law_pattern sc__law_pattern b__law_pattern (by decide) (fun cdv A outer s H E hr => ?_) m__law_pattern (fun cd ds hl x h => ?_) (fun cd ds x h => ?_)
  · exact (pssd_cons (psd_setLc (i := 3) (own := [("cell", 4)]) (by rfl) sc__law_pattern.nd (by rfl) (by rfl) (sw_true rfl rfl rfl (by decide +kernel)) (pid_seq (ped_call (ok__law_box T) (hr.mono (by decide)) (by rfl) T.g__law_box T.F__law_box.kp T.b__law_box (pad_cons (pd_var 1 (pv 1)) (pad_cons (pd_var 2 (pv 2)) pad_nil)))) (blkOk_by (by kernel_rfl)) (fun _ _ _ _ _ => (pgd_name (pgn sc__law_pattern.nd 4))) (fun _ _ _ _ _ => (ptsd_one (PD.pt_cmp (c2_eq hr.units) (ped_callC (ok__law_roll T) (hr.mono (by decide)) (by rfl) T.g__law_roll T.F__law_roll.kp T.b__law_roll (pad_cons (pd_var 0 (pv 0)) (pad_cons pd_int pad_nil))) pd_int (by rfl)))) (fun _ _ _ _ _ => (pd_var 4 (pv 4)))) (pssd_one (psd_ret (ped_t1 b1_tuple (by rfl) T.z_tuple (by decide +kernel) (ped_if (PD.pt_cmp (c2_ne hr.units) (pd_var 3 (pv 3)) (ped_lst pad_nil) (by rfl)) (pd_var 3 (pv 3)) (ped_lst (pad_cons (ped_tup (pad_cons (ped_callC (ok__law_roll T) (hr.mono (by decide)) (by rfl) T.g__law_roll T.F__law_roll.kp T.b__law_roll (pad_cons (pd_var 0 (pv 0)) (pad_cons (pd_var 1 (pv 1)) pad_nil))) (pad_cons (ped_callC (ok__law_roll T) (hr.mono (by decide)) (by rfl) T.g__law_roll T.F__law_roll.kp T.b__law_roll (pad_cons (pd_var 0 (pv 0)) (pad_cons (pd_var 2 (pv 2)) pad_nil))) pad_nil))) pad_nil)))))))
  · have h2 : _ = some x := (if_pos (show ds.length + 1 = 3 from hl)).symm.trans h; exact h2
  · unfold m__law_pattern at h; split at h; · assumption
    · cases h
theorem ok_fits_floor (T : Txt K mg) : FnOk P w K mg base CX0 3 T.f_fits_floor T.fd_fits_floor ["value"] (spD K m_fits_floor) := by
  refine fnD (k := 2) T.F_fits_floor sc_fits_floor b_fits_floor (fun cdv A outer s H E hr => ?_) m_fits_floor (fun ds hl x h => ?_) (fun ds x h => ?_)
  · exact (pssd_cons (psd_if (PWD.pt (pwd_or (ptd_not (pt_tru (ped_call (ok_is_tuple_of T) (hr.mono (by decide)) (by rfl) T.g_is_tuple_of T.F_is_tuple_of.kp T.b_is_tuple_of (pad_cons (pd_var 0 (pv 0)) (pad_cons pd_int (pad_cons (pd_gint (by rfl) T.g_CELLS) pad_nil)))))) (pwd_or1 (ptd_not (pt_tru (ped_b1 (b1_all (by rfl)) (by rfl) T.z_all (by decide +kernel) (ped_lc (own := [("cell", 1)]) (by rfl) sc_fits_floor.nd (pid_seq (pd_var 0 (pv 0))) (blkOk_by (by kernel_rfl)) (fun _ _ _ _ _ => (pgd_name (pgn sc_fits_floor.nd 1))) (fun _ _ _ _ _ => ptsd_nil) (fun _ _ _ _ _ => (ped_call (ok_fits_cell T) (hr.mono (by decide)) (by rfl) T.g_fits_cell T.F_fits_cell.kp T.b_fits_cell (pad_cons (pd_var 1 (pv 1)) pad_nil)))))))))) (pssd_one (psd_ret pd_bl)) pssd_nil) (pssd_one (psd_ret (ped_b1 (b1_all (by rfl)) (by rfl) T.z_all (by decide +kernel) (ped_lc (own := [("one", 2), ("other", 3)]) (by rfl) sc_fits_floor.nd (pid_zip (by rfl) T.z_zip (pad_cons (pd_var 0 (pv 0)) (pad_cons (ped_cut (pd_var 0 (pv 0)) (pod_some pd_int) pod_none) pad_nil))) (blkOk_by (by kernel_rfl)) (fun _ _ _ _ _ => (pgd_tup (by rfl) (pgsd_cons (pgd_name (pgn sc_fits_floor.nd 2)) (pgsd_cons (pgd_name (pgn sc_fits_floor.nd 3)) pgsd_nil)))) (fun _ _ _ _ _ => ptsd_nil) (fun _ _ _ _ _ => (pd_cmp (c2_lt hr.units0) (pd_var 2 (pv 2)) (pd_var 3 (pv 3)) (by rfl))))))))
  · have h2 : _ = some x := (if_pos (show ds.length = 1 from hl)).symm.trans h; exact h2
  · unfold m_fits_floor at h; split at h; · assumption
    · cases h
theorem ok_need_floor (T : Txt K mg) : FnOk P w K mg base CX0 4 T.f_need_floor T.fd_need_floor ["floor"] (spD K m_need_floor) := by
  refine fnD (k := 3) T.F_need_floor sc_need_floor b_need_floor (fun cdv A outer s H E hr => ?_) m_need_floor (fun ds hl x h => ?_) (fun ds x h => ?_)
  · exact (pssd_one (psd_if (ptd_not (pt_tru (ped_call (ok_fits_floor T) (hr.mono (by decide)) (by rfl) T.g_fits_floor T.F_fits_floor.kp T.b_fits_floor (pad_cons (pd_var 0 (pv 0)) pad_nil)))) (pssd_one psd_never) pssd_nil))
  · have h2 : _ = some x := (if_pos (show ds.length = 1 from hl)).symm.trans h; exact h2
  · unfold m_need_floor at h; split at h; · assumption
    · cases h
theorem ok_need_scale (T : Txt K mg) : FnOk P w K mg base CX0 5 T.f_need_scale T.fd_need_scale ["floor", "times"] (spD K m_need_scale) := by
  refine fnD (k := 4) T.F_need_scale sc_need_scale b_need_scale (fun cdv A outer s H E hr => ?_) m_need_scale (fun ds hl x h => ?_) (fun ds x h => ?_)
  · exact (pssd_cons (psd_expr (ped_call (ok_need_floor T) (hr.mono (by decide)) (by rfl) T.g_need_floor T.F_need_floor.kp T.b_need_floor (pad_cons (pd_var 0 (pv 0)) pad_nil))) (pssd_one (psd_if (ptd_not (pt_tru (ped_call (ok_fits_whole T) (hr.mono (by decide)) (by rfl) T.g_fits_whole T.F_fits_whole.kp T.b_fits_whole (pad_cons (pd_var 1 (pv 1)) (pad_cons pd_int (pad_cons (pd_gint (by rfl) T.g_SIDE) pad_nil)))))) (pssd_one psd_never) pssd_nil)))
  · have h2 : _ = some x := (if_pos (show ds.length = 2 from hl)).symm.trans h; exact h2
  · unfold m_need_scale at h; split at h; · assumption
    · cases h
theorem ok_need_block (T : Txt K mg) : FnOk P w K mg base CX0 5 T.f_need_block T.fd_need_block ["floor", "high", "wide"] (spD K m_need_block) := by
  refine fnD (k := 4) T.F_need_block sc_need_block b_need_block (fun cdv A outer s H E hr => ?_) m_need_block (fun ds hl x h => ?_) (fun ds x h => ?_)
  · exact (pssd_cons (psd_expr (ped_call (ok_need_floor T) (hr.mono (by decide)) (by rfl) T.g_need_floor T.F_need_floor.kp T.b_need_floor (pad_cons (pd_var 0 (pv 0)) pad_nil))) (pssd_one (psd_if (PWD.pt (pwd_or (ptd_not (pt_tru (ped_call (ok_fits_whole T) (hr.mono (by decide)) (by rfl) T.g_fits_whole T.F_fits_whole.kp T.b_fits_whole (pad_cons (pd_var 1 (pv 1)) (pad_cons pd_int (pad_cons (pd_gint (by rfl) T.g_SIDE) pad_nil)))))) (pwd_or1 (ptd_not (pt_tru (ped_call (ok_fits_whole T) (hr.mono (by decide)) (by rfl) T.g_fits_whole T.F_fits_whole.kp T.b_fits_whole (pad_cons (pd_var 2 (pv 2)) (pad_cons pd_int (pad_cons (pd_gint (by rfl) T.g_SIDE) pad_nil))))))))) (pssd_one psd_never) pssd_nil)))
  · have h2 : _ = some x := (if_pos (show ds.length = 3 from hl)).symm.trans h; exact h2
  · unfold m_need_block at h; split at h; · assumption
    · cases h
theorem ok_enlarged (T : Txt K mg) : FnOk P w K mg base CX0 6 T.f_enlarged T.fd_enlarged ["floor", "times"] (spD K m_enlarged) := by
  refine fnD (k := 5) T.F_enlarged sc_enlarged b_enlarged (fun cdv A outer s H E hr => ?_) m_enlarged (fun ds hl x h => ?_) (fun ds x h => ?_)
  · exact (pssd_cons (psd_expr (ped_call (ok_need_scale T) (hr.mono (by decide)) (by rfl) T.g_need_scale T.F_need_scale.kp T.b_need_scale (pad_cons (pd_var 0 (pv 0)) (pad_cons (pd_var 1 (pv 1)) pad_nil)))) (pssd_cons (psd_if (PD.pt_cmp c2_gt (pd_bin f2_mul (pd_bin f2_mul (ped_b1 b1_len (by rfl) T.z_len (by decide +kernel) (pd_var 0 (pv 0))) (pd_var 1 (pv 1))) (pd_var 1 (pv 1))) (pd_gint (by rfl) T.g_CELLS) (by rfl)) (pssd_one psd_never) pssd_nil) (pssd_cons (psd_set (i := 2) sc_enlarged.nd (by rfl) (by first | exact .inl rfl | exact .inr rfl) (ped_call (ok_woven_in T) (hr.mono (by decide)) (by rfl) T.g_woven_in T.F_woven_in.kp T.b_woven_in (pad_cons (pd_var 0 (pv 0)) (pad_cons (ped_call (ok_full_block T) (hr.mono (by decide)) (by rfl) T.g_full_block T.F_full_block.kp T.b_full_block (pad_cons (pd_var 1 (pv 1)) pad_nil)) (pad_cons (pd_var 1 (pv 1)) (pad_cons (pd_var 1 (pv 1)) pad_nil)))))) (pssd_cons (psd_expr (ped_call (ok_need_fit T) (hr.mono (by decide)) (by rfl) T.g_need_fit T.F_need_fit.kp T.b_need_fit (pad_cons (pd_var 2 (pv 2)) pad_nil))) (pssd_one (psd_ret (ped_t1 b1_tuple (by rfl) T.z_tuple (by decide +kernel) (pd_var 2 (pv 2)))))))))
  · have h2 : _ = some x := (if_pos (show ds.length = 2 from hl)).symm.trans h; exact h2
  · unfold m_enlarged at h; split at h; · assumption
    · cases h
theorem ok_lessened (T : Txt K mg) : FnOk P w K mg base CX0 6 T.f_lessened T.fd_lessened ["floor", "times"] (spD K m_lessened) := by
  refine fnD (k := 5) T.F_lessened sc_lessened b_lessened (fun cdv A outer s H E hr => ?_) m_lessened (fun ds hl x h => ?_) (fun ds x h => ?_)
  · exact (pssd_cons (psd_expr (ped_call (ok_need_scale T) (hr.mono (by decide)) (by rfl) T.g_need_scale T.F_need_scale.kp T.b_need_scale (pad_cons (pd_var 0 (pv 0)) (pad_cons (pd_var 1 (pv 1)) pad_nil)))) (pssd_cons (psd_set (i := 2) sc_lessened.nd (by rfl) (by first | exact .inl rfl | exact .inr rfl) (ped_call (ok_coarse_in T) (hr.mono (by decide)) (by rfl) T.g_coarse_in T.F_coarse_in.kp T.b_coarse_in (pad_cons (pd_var 0 (pv 0)) (pad_cons (pd_var 1 (pv 1)) (pad_cons (pd_bin f2_mul (pd_var 1 (pv 1)) (pd_var 1 (pv 1))) pad_nil))))) (pssd_one (psd_ret (ped_if (PD.pt_cmp (c2_eq hr.units) (pd_bin f2_mul (pd_bin f2_mul (ped_b1 b1_len (by rfl) T.z_len (by decide +kernel) (pd_var 2 (pv 2))) (pd_var 1 (pv 1))) (pd_var 1 (pv 1))) (ped_b1 b1_len (by rfl) T.z_len (by decide +kernel) (pd_var 0 (pv 0))) (by rfl)) (ped_t1 b1_tuple (by rfl) T.z_tuple (by decide +kernel) (pd_var 2 (pv 2))) pd_non)))))
  · have h2 : _ = some x := (if_pos (show ds.length = 2 from hl)).symm.trans h; exact h2
  · unfold m_lessened at h; split at h; · assumption
    · cases h
theorem ok_need_pattern (T : Txt K mg) : FnOk P w K mg base CX0 6 T.f_need_pattern T.fd_need_pattern ["floor", "high", "wide", "pattern"] (spD K m_need_pattern) := by
  refine fnD (k := 5) T.F_need_pattern sc_need_pattern b_need_pattern (fun cdv A outer s H E hr => ?_) m_need_pattern (fun ds hl x h => ?_) (fun ds x h => ?_)
  · exact (pssd_cons (psd_expr (ped_call (ok_need_block T) (hr.mono (by decide)) (by rfl) T.g_need_block T.F_need_block.kp T.b_need_block (pad_cons (pd_var 0 (pv 0)) (pad_cons (pd_var 1 (pv 1)) (pad_cons (pd_var 2 (pv 2)) pad_nil))))) (pssd_cons (psd_if (PWD.pt (pwd_or (ptd_not (pt_tru (ped_call (ok_fits_floor T) (hr.mono (by decide)) (by rfl) T.g_fits_floor T.F_fits_floor.kp T.b_fits_floor (pad_cons (pd_var 3 (pv 3)) pad_nil)))) (pwd_or1 (PD.pt_cmp c2_ge (ped_b1 (b1_maxA (by rfl) hr.u64) (by rfl) T.z_max (by decide +kernel) (ped_lc (own := [("row", 4), ("column", 5)]) (by rfl) sc_need_pattern.nd (pid_seq (pd_var 3 (pv 3))) (blkOk_by (by kernel_rfl)) (fun _ _ _ _ _ => (pgd_tup (by rfl) (pgsd_cons (pgd_name (pgn sc_need_pattern.nd 4)) (pgsd_cons (pgd_name (pgn sc_need_pattern.nd 5)) pgsd_nil)))) (fun _ _ _ _ _ => ptsd_nil) (fun _ _ _ _ _ => (pd_var 4 (pv 4))))) (pd_var 1 (pv 1)) (by rfl))))) (pssd_one psd_never) pssd_nil) (pssd_one (psd_if (PD.pt_cmp c2_ge (ped_b1 (b1_maxA (by rfl) hr.u64) (by rfl) T.z_max (by decide +kernel) (ped_lc (own := [("row", 4), ("column", 5)]) (by rfl) sc_need_pattern.nd (pid_seq (pd_var 3 (pv 3))) (blkOk_by (by kernel_rfl)) (fun _ _ _ _ _ => (pgd_tup (by rfl) (pgsd_cons (pgd_name (pgn sc_need_pattern.nd 4)) (pgsd_cons (pgd_name (pgn sc_need_pattern.nd 5)) pgsd_nil)))) (fun _ _ _ _ _ => ptsd_nil) (fun _ _ _ _ _ => (pd_var 5 (pv 5))))) (pd_var 2 (pv 2)) (by rfl)) (pssd_one psd_never) pssd_nil))))
  · have h2 : _ = some x := (if_pos (show ds.length = 4 from hl)).symm.trans h; exact h2
  · unfold m_need_pattern at h; split at h; · assumption
    · cases h
theorem ok_unwoven (T : Txt K mg) : FnOk P w K mg base CX0 6 T.f_unwoven T.fd_unwoven ["floor", "high", "wide"] (spD K m_unwoven) := by
  refine fnD (k := 5) T.F_unwoven sc_unwoven b_unwoven (fun cdv A outer s H E hr => ?_) m_unwoven (fun ds hl x h => ?_) (fun ds x h => ?_)
  · exact (pssd_cons (psd_expr (ped_call (ok_need_block T) (hr.mono (by decide)) (by rfl) T.g_need_block T.F_need_block.kp T.b_need_block (pad_cons (pd_var 0 (pv 0)) (pad_cons (pd_var 1 (pv 1)) (pad_cons (pd_var 2 (pv 2)) pad_nil))))) (pssd_cons (psd_set (i := 3) sc_unwoven.nd (by rfl) (by first | exact .inl rfl | exact .inr rfl) (ped_call (ok_blocks_of T) (hr.mono (by decide)) (by rfl) T.g_blocks_of T.F_blocks_of.kp T.b_blocks_of (pad_cons (pd_var 0 (pv 0)) (pad_cons (pd_var 1 (pv 1)) (pad_cons (pd_var 2 (pv 2)) pad_nil))))) (pssd_cons (psd_set (i := 4) sc_unwoven.nd (by rfl) (by first | exact .inl rfl | exact .inr rfl) (ped_b1 (b1_sortA (by rfl)) (by rfl) T.z_sorted (by decide +kernel) (pd_var 3 (pv 3)))) (pssd_cons (psd_if (ptd_not (pt_tru (ped_b1 (b1_all (by rfl)) (by rfl) T.z_all (by decide +kernel) (ped_lc (own := [("home", 5)]) (by rfl) sc_unwoven.nd (pid_seq (pd_var 4 (pv 4))) (blkOk_by (by kernel_rfl)) (fun _ _ _ _ _ => (pgd_name (pgn sc_unwoven.nd 5))) (fun _ _ _ _ _ => ptsd_nil) (fun _ _ _ _ _ => (pd_cmp (c2_eq hr.units) (ped_b1 (b1_sortA (by rfl)) (by rfl) T.z_sorted (by decide +kernel) (ped_ix hr.u1 (pd_var 3 (pv 3)) (pd_var 5 (pv 5)))) (ped_b1 (b1_sortA (by rfl)) (by rfl) T.z_sorted (by decide +kernel) (ped_ix hr.u1 (pd_var 3 (pv 3)) (ped_ix hr.u1 (pd_var 4 (pv 4)) pd_int))) (by rfl))))))) (pssd_one (psd_ret pd_non)) pssd_nil) (pssd_one (psd_ret (ped_tup (pad_cons (ped_t1 b1_tuple (by rfl) T.z_tuple (by decide +kernel) (pd_var 4 (pv 4))) (pad_cons (ped_t1 b1_tuple (by rfl) T.z_tuple (by decide +kernel) (ped_b1 (b1_sortA (by rfl)) (by rfl) T.z_sorted (by decide +kernel) (ped_ix hr.u1 (pd_var 3 (pv 3)) (ped_ix hr.u1 (pd_var 4 (pv 4)) pd_int)))) pad_nil)))))))))
  · have h2 : _ = some x := (if_pos (show ds.length = 3 from hl)).symm.trans h; exact h2
  · unfold m_unwoven at h; split at h; · assumption
    · cases h
theorem ok_is_woven (T : Txt K mg) : FnOk P w K mg base CX0 6 T.f_is_woven T.fd_is_woven ["floor", "high", "wide", "value"] (spD K m_is_woven) := by
  refine fnD (k := 5) T.F_is_woven sc_is_woven b_is_woven (fun cdv A outer s H E hr => ?_) m_is_woven (fun ds hl x h => ?_) (fun ds x h => ?_)
  · exact (pssd_cons (psd_expr (ped_call (ok_need_block T) (hr.mono (by decide)) (by rfl) T.g_need_block T.F_need_block.kp T.b_need_block (pad_cons (pd_var 0 (pv 0)) (pad_cons (pd_var 1 (pv 1)) (pad_cons (pd_var 2 (pv 2)) pad_nil))))) (pssd_cons (psd_if (PWD.pt (pwd_or (ptd_not (pt_tru (ped_isi (by rfl) T.z_isinstance (by rfl) T.z_tuple (by decide +kernel) (by decide) (pd_var 3 (pv 3))))) (pwd_or (PD.pt_cmp (c2_ne hr.units) (ped_b1 b1_len (by rfl) T.z_len (by decide +kernel) (pd_var 3 (pv 3))) pd_int (by rfl)) (pwd_or (ptd_not (pt_tru (ped_call (ok_fits_floor T) (hr.mono (by decide)) (by rfl) T.g_fits_floor T.F_fits_floor.kp T.b_fits_floor (pad_cons (ped_ix hr.u1 (pd_var 3 (pv 3)) pd_int) pad_nil)))) (pwd_or1 (ptd_not (pt_tru (ped_call (ok_fits_floor T) (hr.mono (by decide)) (by rfl) T.g_fits_floor T.F_fits_floor.kp T.b_fits_floor (pad_cons (ped_ix hr.u1 (pd_var 3 (pv 3)) pd_int) pad_nil))))))))) (pssd_one (psd_ret pd_bl)) pssd_nil) (pssd_cons (psd_if (ptd_not (pt_tru (ped_b1 (b1_all (by rfl)) (by rfl) T.z_all (by decide +kernel) (ped_lc (own := [("row", 4), ("column", 5)]) (by rfl) sc_is_woven.nd (pid_seq (ped_ix hr.u1 (pd_var 3 (pv 3)) pd_int)) (blkOk_by (by kernel_rfl)) (fun _ _ _ _ _ => (pgd_tup (by rfl) (pgsd_cons (pgd_name (pgn sc_is_woven.nd 4)) (pgsd_cons (pgd_name (pgn sc_is_woven.nd 5)) pgsd_nil)))) (fun _ _ _ _ _ => ptsd_nil) (fun _ _ _ _ _ => (ped_and (pd_cmp (c2_lt hr.units0) (pd_var 4 (pv 4)) (pd_var 1 (pv 1)) (by rfl)) (ped_one (pd_cmp (c2_lt hr.units0) (pd_var 5 (pv 5)) (pd_var 2 (pv 2)) (by rfl))))))))) (pssd_one (psd_ret pd_bl)) pssd_nil) (pssd_one (psd_ret (ped_and (pd_cmp (c2_eq hr.units) (pd_bin f2_mul (ped_b1 b1_len (by rfl) T.z_len (by decide +kernel) (ped_ix hr.u1 (pd_var 3 (pv 3)) pd_int)) (ped_b1 b1_len (by rfl) T.z_len (by decide +kernel) (ped_ix hr.u1 (pd_var 3 (pv 3)) pd_int))) (ped_b1 b1_len (by rfl) T.z_len (by decide +kernel) (pd_var 0 (pv 0))) (by rfl)) (ped_one (pd_cmp (c2_eq hr.units) (ped_call (ok_woven_in T) (hr.mono (by decide)) (by rfl) T.g_woven_in T.F_woven_in.kp T.b_woven_in (pad_cons (ped_ix hr.u1 (pd_var 3 (pv 3)) pd_int) (pad_cons (ped_ix hr.u1 (pd_var 3 (pv 3)) pd_int) (pad_cons (pd_var 1 (pv 1)) (pad_cons (pd_var 2 (pv 2)) pad_nil))))) (ped_t1 b1_list (by rfl) T.z_list (by decide +kernel) (pd_var 0 (pv 0))) (by rfl)))))))))
  · have h2 : _ = some x := (if_pos (show ds.length = 4 from hl)).symm.trans h; exact h2
  · unfold m_is_woven at h; split at h; · assumption
    · cases h
theorem ok_woven (T : Txt K mg) : FnOk P w K mg base CX0 7 T.f_woven T.fd_woven ["floor", "high", "wide", "pattern"] (spD K m_woven) := by
  refine fnD (k := 6) T.F_woven sc_woven b_woven (fun cdv A outer s H E hr => ?_) m_woven (fun ds hl x h => ?_) (fun ds x h => ?_)
  · exact (pssd_cons (psd_expr (ped_call (ok_need_pattern T) (hr.mono (by decide)) (by rfl) T.g_need_pattern T.F_need_pattern.kp T.b_need_pattern (pad_cons (pd_var 0 (pv 0)) (pad_cons (pd_var 1 (pv 1)) (pad_cons (pd_var 2 (pv 2)) (pad_cons (pd_var 3 (pv 3)) pad_nil)))))) (pssd_cons (psd_if (PD.pt_cmp c2_gt (pd_bin f2_mul (ped_b1 b1_len (by rfl) T.z_len (by decide +kernel) (pd_var 0 (pv 0))) (ped_b1 b1_len (by rfl) T.z_len (by decide +kernel) (pd_var 3 (pv 3)))) (pd_gint (by rfl) T.g_CELLS) (by rfl)) (pssd_one psd_never) pssd_nil) (pssd_cons (psd_set (i := 4) sc_woven.nd (by rfl) (by first | exact .inl rfl | exact .inr rfl) (ped_call (ok_woven_in T) (hr.mono (by decide)) (by rfl) T.g_woven_in T.F_woven_in.kp T.b_woven_in (pad_cons (pd_var 0 (pv 0)) (pad_cons (pd_var 3 (pv 3)) (pad_cons (pd_var 1 (pv 1)) (pad_cons (pd_var 2 (pv 2)) pad_nil)))))) (pssd_cons (psd_expr (ped_call (ok_need_fit T) (hr.mono (by decide)) (by rfl) T.g_need_fit T.F_need_fit.kp T.b_need_fit (pad_cons (pd_var 4 (pv 4)) pad_nil))) (pssd_one (psd_ret (ped_t1 b1_tuple (by rfl) T.z_tuple (by decide +kernel) (pd_var 4 (pv 4)))))))))
  · have h2 : _ = some x := (if_pos (show ds.length = 4 from hl)).symm.trans h; exact h2
  · unfold m_woven at h; split at h; · assumption
    · cases h
theorem ok_woven_times (T : Txt K mg) : FnOk P w K mg base CX0 7 T.f_woven_times T.fd_woven_times ["floor", "high", "wide", "many"] (spD K m_woven_times) := by
  refine fnD (k := 6) T.F_woven_times sc_woven_times b_woven_times (fun cdv A outer s H E hr => ?_) m_woven_times (fun ds hl x h => ?_) (fun ds x h => ?_)
  · exact (pssd_cons (psd_expr (ped_call (ok_need_pattern T) (hr.mono (by decide)) (by rfl) T.g_need_pattern T.F_need_pattern.kp T.b_need_pattern (pad_cons (pd_var 0 (pv 0)) (pad_cons (pd_var 1 (pv 1)) (pad_cons (pd_var 2 (pv 2)) (pad_cons (pd_var 0 (pv 0)) pad_nil)))))) (pssd_cons (psd_if (ptd_not (pt_tru (ped_call (ok_fits_whole T) (hr.mono (by decide)) (by rfl) T.g_fits_whole T.F_fits_whole.kp T.b_fits_whole (pad_cons (pd_var 3 (pv 3)) (pad_cons pd_int (pad_cons (pd_gint (by rfl) T.g_SIDE) pad_nil)))))) (pssd_one psd_never) pssd_nil) (pssd_cons (psd_if (PD.pt_cmp c2_gt (ped_call (ok_power_in T) (hr.mono (by decide)) (by rfl) T.g_power_in T.F_power_in.kp T.b_power_in (pad_cons (ped_b1 b1_len (by rfl) T.z_len (by decide +kernel) (pd_var 0 (pv 0))) (pad_cons (pd_var 3 (pv 3)) pad_nil))) (pd_gint (by rfl) T.g_CELLS) (by rfl)) (pssd_one psd_never) pssd_nil) (pssd_cons (psd_set (i := 4) sc_woven_times.nd (by rfl) (by first | exact .inl rfl | exact .inr rfl) (ped_t1 b1_list (by rfl) T.z_list (by decide +kernel) (pd_var 0 (pv 0)))) (pssd_cons (psd_for PassesOwn.never (by rfl) (PD.pid_range1 (by rfl) T.z_range (pd_bin f2_sub (pd_var 3 (pv 3)) pd_int)) (pgd_name (pgn sc_woven_times.nd 5)) (fb := l1_woven_times) (pssd_one (psd_set (i := 4) sc_woven_times.nd (by rfl) (by first | exact .inl rfl | exact .inr rfl) (ped_call (ok_woven_in T) (hr.mono (by decide)) (by rfl) T.g_woven_in T.F_woven_in.kp T.b_woven_in (pad_cons (pd_var 4 (pv 4)) (pad_cons (pd_var 0 (pv 0)) (pad_cons (pd_var 1 (pv 1)) (pad_cons (pd_var 2 (pv 2)) pad_nil))))))) [5]) (pssd_cons (psd_expr (ped_call (ok_need_fit T) (hr.mono (by decide)) (by rfl) T.g_need_fit T.F_need_fit.kp T.b_need_fit (pad_cons (pd_var 4 (pv 4)) pad_nil))) (pssd_one (psd_ret (ped_t1 b1_tuple (by rfl) T.z_tuple (by decide +kernel) (pd_var 4 (pv 4)))))))))))
  · have h2 : _ = some x := (if_pos (show ds.length = 4 from hl)).symm.trans h; exact h2
  · unfold m_woven_times at h; split at h; · assumption
    · cases h
theorem ok_weaves_of (T : Txt K mg) : FnOk P w K mg base CX0 7 T.f_weaves_of T.fd_weaves_of ["floor"] (spD K m_weaves_of) := by
  refine fnD (k := 6) T.F_weaves_of sc_weaves_of b_weaves_of (fun cdv A outer s H E hr => ?_) m_weaves_of (fun ds hl x h => ?_) (fun ds x h => ?_)
  · exact (pssd_cons (psd_expr (ped_call (ok_need_floor T) (hr.mono (by decide)) (by rfl) T.g_need_floor T.F_need_floor.kp T.b_need_floor (pad_cons (pd_var 0 (pv 0)) pad_nil))) (pssd_cons (psd_unp (ped_call (ok_box_in T) (hr.mono (by decide)) (by rfl) T.g_box_in T.F_box_in.kp T.b_box_in (pad_cons (pd_var 0 (pv 0)) pad_nil)) (pgd_tup (by rfl) (pgsd_cons (pgd_name (pgn sc_weaves_of.nd 1)) (pgsd_cons (pgd_name (pgn sc_weaves_of.nd 2)) (pgsd_cons (pgd_name (pgn sc_weaves_of.nd 3)) (pgsd_cons (pgd_name (pgn sc_weaves_of.nd 4)) pgsd_nil)))))) (pssd_cons (psd_set (i := 5) sc_weaves_of.nd (by rfl) (by first | exact .inl rfl | exact .inr rfl) (ped_lst pad_nil)) (pssd_cons (psd_for PassesOwn.never (by rfl) (PD.pid_range2 (by rfl) T.z_range pd_int (pd_bin f2_add (pd_var 3 (pv 3)) pd_int)) (pgd_name (pgn sc_weaves_of.nd 6)) (fb := l2_weaves_of) (pssd_one (psd_for PassesOwn.never (by rfl) (PD.pid_range2 (by rfl) T.z_range pd_int (pd_bin f2_add (pd_var 4 (pv 4)) pd_int)) (pgd_name (pgn sc_weaves_of.nd 7)) (fb := l1_weaves_of) (pssd_one (psd_if (PWD.pt (pwd_and (PD.pt_cmp (c2_ne hr.units) (ped_tup (pad_cons (pd_var 6 (pv 6)) (pad_cons (pd_var 7 (pv 7)) pad_nil))) (ped_tup (pad_cons pd_int (pad_cons pd_int pad_nil))) (by rfl)) (pwd_and1 (PD.pt_cmp c2_isNot (ped_call (ok_unwoven T) (hr.mono (by decide)) (by rfl) T.g_unwoven T.F_unwoven.kp T.b_unwoven (pad_cons (pd_var 0 (pv 0)) (pad_cons (pd_var 6 (pv 6)) (pad_cons (pd_var 7 (pv 7)) pad_nil)))) pd_non (by rfl))))) (pssd_one (psd_expr (ped_append 5 (pv 5) (ped_tup (pad_cons (pd_var 6 (pv 6)) (pad_cons (pd_var 7 (pv 7)) pad_nil)))))) pssd_nil)) [7])) [6, 7]) (pssd_one (psd_ret (ped_t1 b1_tuple (by rfl) T.z_tuple (by decide +kernel) (pd_var 5 (pv 5)))))))))
  · have h2 : _ = some x := (if_pos (show ds.length = 1 from hl)).symm.trans h; exact h2
  · unfold m_weaves_of at h; split at h; · assumption
    · cases h
theorem ok__law_same (T : Txt K mg) : ∀ i : Nat, FnOk P w K mg base CX0 (i + 0) T.f__law_same T.fd__law_same ["told", "due"] (spD K (m__law_same i))
  | 0 => fn_never fun ds x h => by cases h
  | i + 1 => by
    have ih := ok__law_same T i
    refine FnOk.mono (fnD (k := i + 0) T.F__law_same sc__law_same (b__law_same (m__law_same i)) (fun cdv A outer s H E hr => ?_) (m__law_same (i + 1)) (fun ds hl x h => ?_) (fun ds x h => ?_)) (by omega)
    · exact (pssd_cons (psd_if (PWD.pt (pwd_or (pt_tru (ped_isi (by rfl) T.z_isinstance (by rfl) T.z_tuple (by decide +kernel) (by decide) (pd_var 1 (pv 1)))) (pwd_or1 (pt_tru (ped_isi (by rfl) T.z_isinstance (by rfl) T.z_list (by decide +kernel) (by decide) (pd_var 1 (pv 1))))))) (pssd_cons (psd_if (PWD.pt (pwd_or (PD.pt_cmp (c2_ne hr.units) (ped_isi (by rfl) T.z_isinstance (by rfl) T.z_tuple (by decide +kernel) (by decide) (pd_var 0 (pv 0))) (ped_isi (by rfl) T.z_isinstance (by rfl) T.z_tuple (by decide +kernel) (by decide) (pd_var 1 (pv 1))) (by rfl)) (pwd_or (PD.pt_cmp (c2_ne hr.units) (ped_isi (by rfl) T.z_isinstance (by rfl) T.z_list (by decide +kernel) (by decide) (pd_var 0 (pv 0))) (ped_isi (by rfl) T.z_isinstance (by rfl) T.z_list (by decide +kernel) (by decide) (pd_var 1 (pv 1))) (by rfl)) (pwd_or1 (PD.pt_cmp (c2_ne hr.units) (ped_b1 b1_len (by rfl) T.z_len (by decide +kernel) (pd_var 0 (pv 0))) (ped_b1 b1_len (by rfl) T.z_len (by decide +kernel) (pd_var 1 (pv 1))) (by rfl)))))) (pssd_one (psd_ret pd_bl)) pssd_nil) (pssd_one (psd_ret (pd_cmp (c2_eq hr.units) (ped_lc (own := [("at", 2)]) (by rfl) sc__law_same.nd (PD.pid_range1 (by rfl) T.z_range (ped_b1 b1_len (by rfl) T.z_len (by decide +kernel) (pd_var 1 (pv 1)))) (blkOk_by (by kernel_rfl)) (fun _ _ _ _ _ => (pgd_name (pgn sc__law_same.nd 2))) (fun _ _ _ _ _ => (ptsd_one (ptd_not (pt_tru (ped_call ih hr (by rfl) T.g__law_same T.F__law_same.kp T.b__law_same (pad_cons (ped_ix hr.u1 (pd_var 0 (pv 0)) (pd_var 2 (pv 2))) (pad_cons (ped_ix hr.u1 (pd_var 1 (pv 1)) (pd_var 2 (pv 2))) pad_nil))))))) (fun _ _ _ _ _ => pd_int)) (ped_lst pad_nil) (by rfl))))) pssd_nil) (pssd_cons (psd_if (PD.pt_cmp c2_is (pd_var 1 (pv 1)) pd_non (by rfl)) (pssd_one (psd_ret (pd_cmp c2_is (pd_var 0 (pv 0)) pd_non (by rfl)))) pssd_nil) (pssd_cons (psd_if (pt_tru (ped_isi (by rfl) T.z_isinstance (by rfl) T.z_bool (by decide +kernel) (by decide) (pd_var 1 (pv 1)))) (pssd_one (psd_ret (ped_if (pt_tru (pd_var 1 (pv 1))) (pd_cmp c2_is (pd_var 0 (pv 0)) pd_bl (by rfl)) (pd_cmp c2_is (pd_var 0 (pv 0)) pd_bl (by rfl))))) pssd_nil) (pssd_cons (psd_if (pt_tru (ped_isi (by rfl) T.z_isinstance (by rfl) T.z_int (by decide +kernel) (by decide) (pd_var 1 (pv 1)))) (pssd_one (psd_ret (ped_and (ped_isi (by rfl) T.z_isinstance (by rfl) T.z_int (by decide +kernel) (by decide) (pd_var 0 (pv 0))) (ped_and (ped_not (ped_isi (by rfl) T.z_isinstance (by rfl) T.z_bool (by decide +kernel) (by decide) (pd_var 0 (pv 0)))) (ped_one (pd_cmp (c2_eq hr.units) (ped_t1 b1_int (by rfl) T.z_int (by decide +kernel) (pd_var 0 (pv 0))) (pd_var 1 (pv 1)) (by rfl))))))) pssd_nil) (pssd_one (psd_ret (ped_and (ped_isi (by rfl) T.z_isinstance (by rfl) T.z_str (by decide +kernel) (by decide) (pd_var 0 (pv 0))) (ped_one (pd_cmp (c2_eq hr.units) (ped_t1 b1_str (by rfl) T.z_str (by decide +kernel) (pd_var 0 (pv 0))) (pd_var 1 (pv 1)) (by rfl))))))))))
    · have h2 : _ = some x := (if_pos (show ds.length = 2 from hl)).symm.trans h; exact h2
    · unfold m__law_same at h; split at h; · assumption
      · cases h
theorem ok__law_rows_right (T : Txt K mg) : FnOk P w K mg base CX0 10 T.f__law_rows_right T.fd__law_rows_right [] (spD K m__law_rows_right) := by
  refine fnD (k := 9) T.F__law_rows_right sc__law_rows_right b__law_rows_right (fun cdv A outer s H E hr => ?_) m__law_rows_right (fun ds hl x h => ?_) (fun ds x h => ?_)
  · exact (pssd_cons (psd_unp (ped_tup (pad_cons (ped_tup (pad_cons (ped_tup (pad_cons pd_int (pad_cons pd_int pad_nil))) (pad_cons (ped_tup (pad_cons pd_int (pad_cons pd_int pad_nil))) (pad_cons (ped_tup (pad_cons pd_int (pad_cons pd_int pad_nil))) pad_nil)))) (pad_cons (ped_tup (pad_cons (ped_tup (pad_cons pd_int (pad_cons pd_int pad_nil))) (pad_cons (ped_tup (pad_cons pd_int (pad_cons pd_int pad_nil))) pad_nil))) pad_nil))) (pgd_tup (by rfl) (pgsd_cons (pgd_name (pgn sc__law_rows_right.nd 0)) (pgsd_cons (pgd_name (pgn sc__law_rows_right.nd 1)) pgsd_nil)))) (pssd_cons (psd_if (PD.pt_cmp (c2_ne hr.units) (ped_call (ok_woven_times T) (hr.mono (by decide)) (by rfl) T.g_woven_times T.F_woven_times.kp T.b_woven_times (pad_cons (pd_var 0 (pv 0)) (pad_cons pd_int (pad_cons pd_int (pad_cons pd_int pad_nil))))) (ped_call (ok_woven T) (hr.mono (by decide)) (by rfl) T.g_woven T.F_woven.kp T.b_woven (pad_cons (ped_call (ok_woven T) (hr.mono (by decide)) (by rfl) T.g_woven T.F_woven.kp T.b_woven (pad_cons (pd_var 0 (pv 0)) (pad_cons pd_int (pad_cons pd_int (pad_cons (pd_var 0 (pv 0)) pad_nil))))) (pad_cons pd_int (pad_cons pd_int (pad_cons (pd_var 0 (pv 0)) pad_nil))))) (by rfl)) (pssd_one (psd_ret pd_bl)) pssd_nil) (pssd_cons (psd_set (i := 2) sc__law_rows_right.nd (by rfl) (by first | exact .inl rfl | exact .inr rfl) (ped_tup (pad_cons (ped_call (ok_woven T) (hr.mono (by decide)) (by rfl) T.g_woven T.F_woven.kp T.b_woven (pad_cons (pd_var 0 (pv 0)) (pad_cons pd_int (pad_cons pd_int (pad_cons (pd_var 1 (pv 1)) pad_nil))))) (pad_cons (ped_call (ok_unwoven T) (hr.mono (by decide)) (by rfl) T.g_unwoven T.F_unwoven.kp T.b_unwoven (pad_cons (pd_var 0 (pv 0)) (pad_cons pd_int (pad_cons pd_int pad_nil)))) (pad_cons (ped_call (ok_weaves_of T) (hr.mono (by decide)) (by rfl) T.g_weaves_of T.F_weaves_of.kp T.b_weaves_of (pad_cons (ped_tup (pad_cons (ped_tup (pad_cons pd_int (pad_cons pd_int pad_nil))) (pad_cons (ped_tup (pad_cons pd_int (pad_cons pd_int pad_nil))) pad_nil))) pad_nil)) (pad_cons (ped_b1 b1_len (by rfl) T.z_len (by decide +kernel) (ped_call (ok_woven_times T) (hr.mono (by decide)) (by rfl) T.g_woven_times T.F_woven_times.kp T.b_woven_times (pad_cons (pd_var 0 (pv 0)) (pad_cons pd_int (pad_cons pd_int (pad_cons pd_int pad_nil)))))) pad_nil)))))) (pssd_one (psd_ret (ped_call (ok__law_same T 8) (hr.mono (by decide)) (by rfl) T.g__law_same T.F__law_same.kp T.b__law_same (pad_cons (pd_var 2 (pv 2)) (pad_cons (ped_tup (pad_cons (ped_tup (pad_cons (ped_tup (pad_cons pd_int (pad_cons pd_int pad_nil))) (pad_cons (ped_tup (pad_cons pd_int (pad_cons pd_int pad_nil))) (pad_cons (ped_tup (pad_cons pd_int (pad_cons pd_int pad_nil))) (pad_cons (ped_tup (pad_cons pd_int (pad_cons pd_int pad_nil))) (pad_cons (ped_tup (pad_cons pd_int (pad_cons pd_int pad_nil))) (pad_cons (ped_tup (pad_cons pd_int (pad_cons pd_int pad_nil))) pad_nil))))))) (pad_cons pd_non (pad_cons (ped_tup (pad_cons (ped_tup (pad_cons pd_int (pad_cons pd_int pad_nil))) pad_nil)) (pad_cons pd_int pad_nil))))) pad_nil))))))))
  · have h2 : _ = some x := (if_pos (show ds.length = 0 from hl)).symm.trans h; exact h2
  · unfold m__law_rows_right at h; split at h; · assumption
    · cases h
theorem ok__law_three_right (T : Txt K mg) : FnOk P w K mg base CX0 10 T.f__law_three_right T.fd__law_three_right ["cup", "floor"] (spC K m__law_three_right) := by
  refine fnC (k := 9) T.F__law_three_right sc__law_three_right b__law_three_right (by decide) (fun cdv A outer s H E hr => ?_) m__law_three_right (fun cd ds hl x h => ?_) (fun cd ds x h => ?_)
  · exact (pssd_cons (psd_parT (is := [2, 3, 4, 5]) (by rfl) (pgs_cons (pgn sc__law_three_right.nd 2) (pgs_cons (pgn sc__law_three_right.nd 3) (pgs_cons (pgn sc__law_three_right.nd 4) (pgs_cons (pgn sc__law_three_right.nd 5) pgs_nil)))) (by rfl) (by rfl) (pad_cons (pd_bin f2_add pd_int (ped_callC (ok__law_roll T) (hr.mono (by decide)) (by rfl) T.g__law_roll T.F__law_roll.kp T.b__law_roll (pad_cons (pd_var 0 (pv 0)) (pad_cons pd_int pad_nil)))) (pad_cons (pd_bin f2_add pd_int (ped_callC (ok__law_roll T) (hr.mono (by decide)) (by rfl) T.g__law_roll T.F__law_roll.kp T.b__law_roll (pad_cons (pd_var 0 (pv 0)) (pad_cons pd_int pad_nil)))) (pad_cons (pd_bin f2_add pd_int (ped_callC (ok__law_roll T) (hr.mono (by decide)) (by rfl) T.g__law_roll T.F__law_roll.kp T.b__law_roll (pad_cons (pd_var 0 (pv 0)) (pad_cons pd_int pad_nil)))) (pad_cons (pd_bin f2_add pd_int (ped_callC (ok__law_roll T) (hr.mono (by decide)) (by rfl) T.g__law_roll T.F__law_roll.kp T.b__law_roll (pad_cons (pd_var 0 (pv 0)) (pad_cons pd_int pad_nil)))) pad_nil))))) (pssd_cons (psd_par2 (i := 6) (j := 7) (by rfl) sc__law_three_right.nd (by rfl) (by rfl) (by decide) (by rfl) (by rfl) (pad_cons (ped_callC (ok__law_pattern T) (hr.mono (by decide)) (by rfl) T.g__law_pattern T.F__law_pattern.kp T.b__law_pattern (pad_cons (pd_var 0 (pv 0)) (pad_cons (pd_var 2 (pv 2)) (pad_cons (pd_var 3 (pv 3)) pad_nil)))) (pad_cons (ped_callC (ok__law_pattern T) (hr.mono (by decide)) (by rfl) T.g__law_pattern T.F__law_pattern.kp T.b__law_pattern (pad_cons (pd_var 0 (pv 0)) (pad_cons (pd_var 4 (pv 4)) (pad_cons (pd_var 5 (pv 5)) pad_nil)))) pad_nil))) (pssd_cons (psd_par2 (i := 8) (j := 9) (by rfl) sc__law_three_right.nd (by rfl) (by rfl) (by decide) (by rfl) (by rfl) (pad_cons (ped_call (ok_woven T) (hr.mono (by decide)) (by rfl) T.g_woven T.F_woven.kp T.b_woven (pad_cons (pd_var 1 (pv 1)) (pad_cons (pd_var 2 (pv 2)) (pad_cons (pd_var 3 (pv 3)) (pad_cons (pd_var 6 (pv 6)) pad_nil))))) (pad_cons (ped_call (ok_woven T) (hr.mono (by decide)) (by rfl) T.g_woven T.F_woven.kp T.b_woven (pad_cons (pd_var 6 (pv 6)) (pad_cons (pd_var 4 (pv 4)) (pad_cons (pd_var 5 (pv 5)) (pad_cons (pd_var 7 (pv 7)) pad_nil))))) pad_nil))) (pssd_cons (psd_set (i := 10) sc__law_three_right.nd (by rfl) (by first | exact .inl rfl | exact .inr rfl) (ped_call (ok_woven T) (hr.mono (by decide)) (by rfl) T.g_woven T.F_woven.kp T.b_woven (pad_cons (pd_var 8 (pv 8)) (pad_cons (pd_var 4 (pv 4)) (pad_cons (pd_var 5 (pv 5)) (pad_cons (pd_var 7 (pv 7)) pad_nil)))))) (pssd_cons (psd_if (PWD.pt (pwd_or (ptd_not (pt_tru (ped_call (ok__law_same T 8) (hr.mono (by decide)) (by rfl) T.g__law_same T.F__law_same.kp T.b__law_same (pad_cons (pd_var 10 (pv 10)) (pad_cons (ped_call (ok_woven T) (hr.mono (by decide)) (by rfl) T.g_woven T.F_woven.kp T.b_woven (pad_cons (pd_var 1 (pv 1)) (pad_cons (pd_bin f2_mul (pd_var 2 (pv 2)) (pd_var 4 (pv 4))) (pad_cons (pd_bin f2_mul (pd_var 3 (pv 3)) (pd_var 5 (pv 5))) (pad_cons (pd_var 9 (pv 9)) pad_nil))))) pad_nil))))) (pwd_or1 (PD.pt_cmp (c2_ne hr.units) (ped_b1 b1_len (by rfl) T.z_len (by decide +kernel) (pd_var 10 (pv 10))) (pd_bin f2_mul (pd_bin f2_mul (ped_b1 b1_len (by rfl) T.z_len (by decide +kernel) (pd_var 1 (pv 1))) (ped_b1 b1_len (by rfl) T.z_len (by decide +kernel) (pd_var 6 (pv 6)))) (ped_b1 b1_len (by rfl) T.z_len (by decide +kernel) (pd_var 7 (pv 7)))) (by rfl))))) (pssd_one (psd_ret pd_bl)) pssd_nil) (pssd_cons (psd_set (i := 11) sc__law_three_right.nd (by rfl) (by first | exact .inl rfl | exact .inr rfl) (ped_tup (pad_cons (ped_call (ok_unwoven T) (hr.mono (by decide)) (by rfl) T.g_unwoven T.F_unwoven.kp T.b_unwoven (pad_cons (pd_var 10 (pv 10)) (pad_cons (pd_var 4 (pv 4)) (pad_cons (pd_var 5 (pv 5)) pad_nil)))) (pad_cons (ped_call (ok_unwoven T) (hr.mono (by decide)) (by rfl) T.g_unwoven T.F_unwoven.kp T.b_unwoven (pad_cons (pd_var 10 (pv 10)) (pad_cons (pd_bin f2_mul (pd_var 2 (pv 2)) (pd_var 4 (pv 4))) (pad_cons (pd_bin f2_mul (pd_var 3 (pv 3)) (pd_var 5 (pv 5))) pad_nil)))) (pad_cons (ped_call (ok_unwoven T) (hr.mono (by decide)) (by rfl) T.g_unwoven T.F_unwoven.kp T.b_unwoven (pad_cons (pd_var 8 (pv 8)) (pad_cons (pd_var 2 (pv 2)) (pad_cons (pd_var 3 (pv 3)) pad_nil)))) pad_nil))))) (pssd_cons (psd_if (ptd_not (pt_tru (ped_call (ok__law_same T 8) (hr.mono (by decide)) (by rfl) T.g__law_same T.F__law_same.kp T.b__law_same (pad_cons (pd_var 11 (pv 11)) (pad_cons (ped_tup (pad_cons (ped_tup (pad_cons (pd_var 8 (pv 8)) (pad_cons (pd_var 7 (pv 7)) pad_nil))) (pad_cons (ped_tup (pad_cons (pd_var 1 (pv 1)) (pad_cons (pd_var 9 (pv 9)) pad_nil))) (pad_cons (ped_tup (pad_cons (pd_var 1 (pv 1)) (pad_cons (pd_var 6 (pv 6)) pad_nil))) pad_nil)))) pad_nil))))) (pssd_one (psd_ret pd_bl)) pssd_nil) (pssd_cons (psd_set (i := 11) sc__law_three_right.nd (by rfl) (by first | exact .inl rfl | exact .inr rfl) (ped_tup (pad_cons (ped_call (ok_is_woven T) (hr.mono (by decide)) (by rfl) T.g_is_woven T.F_is_woven.kp T.b_is_woven (pad_cons (pd_var 10 (pv 10)) (pad_cons (pd_var 4 (pv 4)) (pad_cons (pd_var 5 (pv 5)) (pad_cons (ped_tup (pad_cons (pd_var 8 (pv 8)) (pad_cons (pd_var 7 (pv 7)) pad_nil))) pad_nil))))) (pad_cons (ped_call (ok_is_woven T) (hr.mono (by decide)) (by rfl) T.g_is_woven T.F_is_woven.kp T.b_is_woven (pad_cons (pd_var 10 (pv 10)) (pad_cons (pd_bin f2_mul (pd_var 2 (pv 2)) (pd_var 4 (pv 4))) (pad_cons (pd_bin f2_mul (pd_var 3 (pv 3)) (pd_var 5 (pv 5))) (pad_cons (ped_tup (pad_cons (pd_var 1 (pv 1)) (pad_cons (pd_var 9 (pv 9)) pad_nil))) pad_nil))))) pad_nil)))) (pssd_cons (psd_set (i := 12) sc__law_three_right.nd (by rfl) (by first | exact .inl rfl | exact .inr rfl) (ped_t1 b1_tuple (by rfl) T.z_tuple (by decide +kernel) (ped_lc (own := [("row", 13), ("column", 14)]) (by rfl) sc__law_three_right.nd (pid_seq (pd_var 8 (pv 8))) (blkOk_by (by kernel_rfl)) (fun _ _ _ _ _ => (pgd_tup (by rfl) (pgsd_cons (pgd_name (pgn sc__law_three_right.nd 13)) (pgsd_cons (pgd_name (pgn sc__law_three_right.nd 14)) pgsd_nil)))) (fun _ _ _ _ _ => ptsd_nil) (fun _ _ _ _ _ => (ped_tup (pad_cons (pd_var 13 (pv 13)) (pad_cons (pd_bin f2_add (pd_var 14 (pv 14)) pd_int) pad_nil))))))) (pssd_cons (psd_if (PWD.pt (pwd_or (ptd_not (pt_tru (ped_call (ok__law_same T 8) (hr.mono (by decide)) (by rfl) T.g__law_same T.F__law_same.kp T.b__law_same (pad_cons (pd_var 11 (pv 11)) (pad_cons (ped_tup (pad_cons pd_bl (pad_cons pd_bl pad_nil))) pad_nil))))) (pwd_or1 (PD.pt_cmp c2_isNot (ped_call (ok_is_woven T) (hr.mono (by decide)) (by rfl) T.g_is_woven T.F_is_woven.kp T.b_is_woven (pad_cons (pd_var 10 (pv 10)) (pad_cons (pd_var 4 (pv 4)) (pad_cons (pd_var 5 (pv 5)) (pad_cons (ped_tup (pad_cons (pd_var 12 (pv 12)) (pad_cons (pd_var 7 (pv 7)) pad_nil))) pad_nil))))) pd_bl (by rfl))))) (pssd_one (psd_ret pd_bl)) pssd_nil) (pssd_cons (psd_if (PD.pt_cmp c2_isNot (ped_call (ok_is_woven T) (hr.mono (by decide)) (by rfl) T.g_is_woven T.F_is_woven.kp T.b_is_woven (pad_cons (pd_var 10 (pv 10)) (pad_cons (pd_var 4 (pv 4)) (pad_cons (pd_var 5 (pv 5)) (pad_cons (ped_tup (pad_cons (pd_var 8 (pv 8)) (pad_cons (pd_bin f2_add (ped_cut (pd_var 7 (pv 7)) pod_none (pod_some (ped_neg pd_int))) (ped_tup (pad_cons (ped_tup (pad_cons pd_int (pad_cons pd_int pad_nil))) pad_nil))) pad_nil))) pad_nil))))) pd_bl (by rfl)) (pssd_one (psd_ret pd_bl)) pssd_nil) (pssd_cons (psd_set (i := 15) sc__law_three_right.nd (by rfl) (by first | exact .inl rfl | exact .inr rfl) (ped_tup (pad_cons (pd_bin f2_add (ped_b1 (b1_maxA (by rfl) hr.u64) (by rfl) T.z_max (by decide +kernel) (ped_lc (own := [("row", 13), ("column", 14)]) (by rfl) sc__law_three_right.nd (pid_seq (pd_var 10 (pv 10))) (blkOk_by (by kernel_rfl)) (fun _ _ _ _ _ => (pgd_tup (by rfl) (pgsd_cons (pgd_name (pgn sc__law_three_right.nd 13)) (pgsd_cons (pgd_name (pgn sc__law_three_right.nd 14)) pgsd_nil)))) (fun _ _ _ _ _ => ptsd_nil) (fun _ _ _ _ _ => (pd_var 13 (pv 13))))) pd_int) (pad_cons (pd_bin f2_add (ped_b1 (b1_maxA (by rfl) hr.u64) (by rfl) T.z_max (by decide +kernel) (ped_lc (own := [("row", 13), ("column", 14)]) (by rfl) sc__law_three_right.nd (pid_seq (pd_var 10 (pv 10))) (blkOk_by (by kernel_rfl)) (fun _ _ _ _ _ => (pgd_tup (by rfl) (pgsd_cons (pgd_name (pgn sc__law_three_right.nd 13)) (pgsd_cons (pgd_name (pgn sc__law_three_right.nd 14)) pgsd_nil)))) (fun _ _ _ _ _ => ptsd_nil) (fun _ _ _ _ _ => (pd_var 14 (pv 14))))) pd_int) pad_nil)))) (pssd_cons (psd_for PassesOwn.never (by rfl) (pid_seq (ped_tup (pad_cons (ped_tup (pad_cons (pd_var 4 (pv 4)) (pad_cons (pd_var 5 (pv 5)) pad_nil))) (pad_cons (ped_tup (pad_cons (pd_bin f2_mul (pd_var 2 (pv 2)) (pd_var 4 (pv 4))) (pad_cons (pd_bin f2_mul (pd_var 3 (pv 3)) (pd_var 5 (pv 5))) pad_nil))) pad_nil)))) (pgd_name (pgn sc__law_three_right.nd 16)) (fb := l1__law_three_right) (pssd_cons (psd_set (i := 17) sc__law_three_right.nd (by rfl) (by first | exact .inl rfl | exact .inr rfl) (ped_and (pd_cmp (c2_ne hr.units) (pd_var 16 (pv 16)) (ped_tup (pad_cons pd_int (pad_cons pd_int pad_nil))) (by rfl)) (ped_and (pd_cmp c2_le (ped_ix hr.u1 (pd_var 16 (pv 16)) pd_int) (ped_ix hr.u1 (pd_var 15 (pv 15)) pd_int) (by rfl)) (ped_one (pd_cmp c2_le (ped_ix hr.u1 (pd_var 16 (pv 16)) pd_int) (ped_ix hr.u1 (pd_var 15 (pv 15)) pd_int) (by rfl)))))) (pssd_one (psd_if (PD.pt_cmp (c2_ne hr.units) (pd_cmp (c2_in hr.u65) (pd_var 16 (pv 16)) (ped_call (ok_weaves_of T) (hr.mono (by decide)) (by rfl) T.g_weaves_of T.F_weaves_of.kp T.b_weaves_of (pad_cons (pd_var 10 (pv 10)) pad_nil)) (by rfl)) (pd_var 17 (pv 17)) (by rfl)) (pssd_one (psd_ret pd_bl)) pssd_nil))) [16, 17]) (pssd_one (psd_ret pd_bl)))))))))))))))
  · have h2 : _ = some x := (if_pos (show ds.length + 1 = 2 from hl)).symm.trans h; exact h2
  · unfold m__law_three_right at h; split at h; · assumption
    · cases h
theorem ok_law (T : Txt K mg) (hc : ∀ c : Int, 0 ≤ c → ∃ x y ρ, b__law_cup (En.only 2 1 (.sh (.int c))) = some (.rt (.fr (.list [.int x, .int y])) ρ) ∧ 0 ≤ x ∧ 0 ≤ y ∧ y < 10000000000)
    (hs : ∀ x y : Int, 0 ≤ x → 0 ≤ y → y < 10000000000 → ∃ ρ, b_law (En.only 15 1 (.own (.list [.int x, .int y]))) = some (.rt (.sh (.bool true)) ρ)) : FnOk P w K mg base CX0 11 T.f_law T.fd_law ["script"] (spLaw K) :=
  law_fn (k := 10) T.F_law sc_law 13 rfl b_law _ _ rfl (fun cdv A outer s H E hr => ⟨ps_set (i := 1) sc_law.nd (by rfl) (by first | exact .inl rfl | exact .inr rfl) (pe_call (ok__law_cup T hc) (hr.mono (by decide)) (by rfl) T.g__law_cup T.F__law_cup.kp T.b__law_cup .nil pass0 (pa_cons (pv 0) pa_nil)), (pssd_cons (psd_if (ptd_not (pt_tru (ped_call0 (ok__law_rows_right T) (hr.mono (by decide)) (by rfl) T.g__law_rows_right T.F__law_rows_right.kp T.b__law_rows_right))) (pssd_one (psd_ret pd_bl)) pssd_nil) (pssd_cons (psd_for PassesOwn.never (by rfl) (PD.pid_range1 (by rfl) T.z_range pd_int) (pgd_name (pgn sc_law.nd 2)) (fb := l1_law) (pssd_cons (psd_set (i := 3) sc_law.nd (by rfl) (by first | exact .inl rfl | exact .inr rfl) (ped_callC (ok__law_floor T) (hr.mono (by decide)) (by rfl) T.g__law_floor T.F__law_floor.kp T.b__law_floor (pad_cons (pd_var 1 (pv 1)) (pad_cons pd_int (pad_cons pd_int pad_nil))))) (pssd_cons (psd_if (ptd_not (pt_tru (ped_callC (ok__law_three_right T) (hr.mono (by decide)) (by rfl) T.g__law_three_right T.F__law_three_right.kp T.b__law_three_right (pad_cons (pd_var 1 (pv 1)) (pad_cons (pd_var 3 (pv 3)) pad_nil))))) (pssd_one (psd_ret pd_bl)) pssd_nil) (pssd_cons (psd_par2 (i := 4) (j := 5) (by rfl) sc_law.nd (by rfl) (by rfl) (by decide) (by rfl) (by rfl) (pad_cons (pd_bin f2_add pd_int (ped_callC (ok__law_roll T) (hr.mono (by decide)) (by rfl) T.g__law_roll T.F__law_roll.kp T.b__law_roll (pad_cons (pd_var 1 (pv 1)) (pad_cons pd_int pad_nil)))) (pad_cons (pd_bin f2_add pd_int (ped_callC (ok__law_roll T) (hr.mono (by decide)) (by rfl) T.g__law_roll T.F__law_roll.kp T.b__law_roll (pad_cons (pd_var 1 (pv 1)) (pad_cons pd_int pad_nil)))) pad_nil))) (pssd_cons (psd_set (i := 6) sc_law.nd (by rfl) (by first | exact .inl rfl | exact .inr rfl) (ped_call (ok_enlarged T) (hr.mono (by decide)) (by rfl) T.g_enlarged T.F_enlarged.kp T.b_enlarged (pad_cons (pd_var 3 (pv 3)) (pad_cons (pd_var 4 (pv 4)) pad_nil)))) (pssd_cons (psd_set (i := 7) sc_law.nd (by rfl) (by first | exact .inl rfl | exact .inr rfl) (ped_tup (pad_cons (ped_call (ok_enlarged T) (hr.mono (by decide)) (by rfl) T.g_enlarged T.F_enlarged.kp T.b_enlarged (pad_cons (pd_var 6 (pv 6)) (pad_cons (pd_var 5 (pv 5)) pad_nil))) (pad_cons (ped_call (ok_woven T) (hr.mono (by decide)) (by rfl) T.g_woven T.F_woven.kp T.b_woven (pad_cons (pd_var 3 (pv 3)) (pad_cons (pd_var 4 (pv 4)) (pad_cons (pd_var 4 (pv 4)) (pad_cons (ped_call (ok__law_box T) (hr.mono (by decide)) (by rfl) T.g__law_box T.F__law_box.kp T.b__law_box (pad_cons (pd_var 4 (pv 4)) (pad_cons (pd_var 4 (pv 4)) pad_nil))) pad_nil))))) (pad_cons (ped_call (ok_lessened T) (hr.mono (by decide)) (by rfl) T.g_lessened T.F_lessened.kp T.b_lessened (pad_cons (ped_call (ok_enlarged T) (hr.mono (by decide)) (by rfl) T.g_enlarged T.F_enlarged.kp T.b_enlarged (pad_cons (pd_var 6 (pv 6)) (pad_cons (pd_var 5 (pv 5)) pad_nil))) (pad_cons (pd_var 5 (pv 5)) pad_nil))) pad_nil))))) (pssd_cons (psd_if (ptd_not (pt_tru (ped_call (ok__law_same T 8) (hr.mono (by decide)) (by rfl) T.g__law_same T.F__law_same.kp T.b__law_same (pad_cons (pd_var 7 (pv 7)) (pad_cons (ped_tup (pad_cons (ped_call (ok_enlarged T) (hr.mono (by decide)) (by rfl) T.g_enlarged T.F_enlarged.kp T.b_enlarged (pad_cons (pd_var 3 (pv 3)) (pad_cons (pd_bin f2_mul (pd_var 4 (pv 4)) (pd_var 5 (pv 5))) pad_nil))) (pad_cons (pd_var 6 (pv 6)) (pad_cons (pd_var 6 (pv 6)) pad_nil)))) pad_nil))))) (pssd_one (psd_ret pd_bl)) pssd_nil) (pssd_cons (psd_par2 (i := 8) (j := 9) (by rfl) sc_law.nd (by rfl) (by rfl) (by decide) (by rfl) (by rfl) (pad_cons (pd_bin f2_add (ped_b1 (b1_maxA (by rfl) hr.u64) (by rfl) T.z_max (by decide +kernel) (ped_lc (own := [("row", 10), ("column", 11)]) (by rfl) sc_law.nd (pid_seq (pd_var 3 (pv 3))) (blkOk_by (by kernel_rfl)) (fun _ _ _ _ _ => (pgd_tup (by rfl) (pgsd_cons (pgd_name (pgn sc_law.nd 10)) (pgsd_cons (pgd_name (pgn sc_law.nd 11)) pgsd_nil)))) (fun _ _ _ _ _ => ptsd_nil) (fun _ _ _ _ _ => (pd_var 10 (pv 10))))) pd_int) (pad_cons (pd_bin f2_add (ped_b1 (b1_maxA (by rfl) hr.u64) (by rfl) T.z_max (by decide +kernel) (ped_lc (own := [("row", 10), ("column", 11)]) (by rfl) sc_law.nd (pid_seq (pd_var 3 (pv 3))) (blkOk_by (by kernel_rfl)) (fun _ _ _ _ _ => (pgd_tup (by rfl) (pgsd_cons (pgd_name (pgn sc_law.nd 10)) (pgsd_cons (pgd_name (pgn sc_law.nd 11)) pgsd_nil)))) (fun _ _ _ _ _ => ptsd_nil) (fun _ _ _ _ _ => (pd_var 11 (pv 11))))) pd_int) pad_nil))) (pssd_cons (psd_set (i := 12) sc_law.nd (by rfl) (by first | exact .inl rfl | exact .inr rfl) (ped_cut (pd_var 3 (pv 3)) pod_none (pod_some pd_int))) (pssd_cons (psd_set (i := 13) sc_law.nd (by rfl) (by first | exact .inl rfl | exact .inr rfl) (ped_call (ok_woven_times T) (hr.mono (by decide)) (by rfl) T.g_woven_times T.F_woven_times.kp T.b_woven_times (pad_cons (pd_var 12 (pv 12)) (pad_cons (pd_var 8 (pv 8)) (pad_cons (pd_var 9 (pv 9)) (pad_cons pd_int pad_nil)))))) (pssd_cons (psd_set (i := 7) sc_law.nd (by rfl) (by first | exact .inl rfl | exact .inr rfl) (ped_tup (pad_cons (ped_call (ok_woven_times T) (hr.mono (by decide)) (by rfl) T.g_woven_times T.F_woven_times.kp T.b_woven_times (pad_cons (pd_var 12 (pv 12)) (pad_cons (pd_var 8 (pv 8)) (pad_cons (pd_var 9 (pv 9)) (pad_cons pd_int pad_nil))))) (pad_cons (pd_var 13 (pv 13)) (pad_cons (ped_call (ok_unwoven T) (hr.mono (by decide)) (by rfl) T.g_unwoven T.F_unwoven.kp T.b_unwoven (pad_cons (pd_var 13 (pv 13)) (pad_cons (pd_var 8 (pv 8)) (pad_cons (pd_var 9 (pv 9)) pad_nil)))) pad_nil))))) (pssd_cons (psd_if (ptd_not (pt_tru (ped_call (ok__law_same T 8) (hr.mono (by decide)) (by rfl) T.g__law_same T.F__law_same.kp T.b__law_same (pad_cons (pd_var 7 (pv 7)) (pad_cons (ped_tup (pad_cons (pd_var 12 (pv 12)) (pad_cons (ped_call (ok_woven T) (hr.mono (by decide)) (by rfl) T.g_woven T.F_woven.kp T.b_woven (pad_cons (pd_var 12 (pv 12)) (pad_cons (pd_var 8 (pv 8)) (pad_cons (pd_var 9 (pv 9)) (pad_cons (pd_var 12 (pv 12)) pad_nil))))) (pad_cons (ped_tup (pad_cons (pd_var 12 (pv 12)) (pad_cons (pd_var 12 (pv 12)) pad_nil))) pad_nil)))) pad_nil))))) (pssd_one (psd_ret pd_bl)) pssd_nil) (pssd_one (psd_if (PWD.pt (pwd_and (PD.pt_cmp (c2_lt hr.units0) (pd_var 8 (pv 8)) pd_int (by rfl)) (pwd_and1 (PD.pt_cmp (c2_lt hr.units0) (pd_var 9 (pv 9)) pd_int (by rfl))))) (pssd_cons (psd_set (i := 14) sc_law.nd (by rfl) (by first | exact .inl rfl | exact .inr rfl) (ped_call (ok_woven T) (hr.mono (by decide)) (by rfl) T.g_woven T.F_woven.kp T.b_woven (pad_cons (pd_var 13 (pv 13)) (pad_cons (pd_var 8 (pv 8)) (pad_cons (pd_var 9 (pv 9)) (pad_cons (pd_var 12 (pv 12)) pad_nil)))))) (pssd_one (psd_if (ptd_not (pt_tru (ped_call (ok__law_same T 8) (hr.mono (by decide)) (by rfl) T.g__law_same T.F__law_same.kp T.b__law_same (pad_cons (ped_tup (pad_cons (ped_call (ok_woven_times T) (hr.mono (by decide)) (by rfl) T.g_woven_times T.F_woven_times.kp T.b_woven_times (pad_cons (pd_var 12 (pv 12)) (pad_cons (pd_var 8 (pv 8)) (pad_cons (pd_var 9 (pv 9)) (pad_cons pd_int pad_nil))))) (pad_cons (ped_call (ok_woven T) (hr.mono (by decide)) (by rfl) T.g_woven T.F_woven.kp T.b_woven (pad_cons (pd_var 12 (pv 12)) (pad_cons (pd_bin f2_mul (pd_var 8 (pv 8)) (pd_var 8 (pv 8))) (pad_cons (pd_bin f2_mul (pd_var 9 (pv 9)) (pd_var 9 (pv 9))) (pad_cons (pd_var 13 (pv 13)) pad_nil))))) pad_nil))) (pad_cons (ped_tup (pad_cons (pd_var 14 (pv 14)) (pad_cons (pd_var 14 (pv 14)) pad_nil))) pad_nil))))) (pssd_one (psd_ret pd_bl)) pssd_nil))) pssd_nil))))))))))))) [2, 3, 4, 5, 6, 7, 8, 9, 10, 11, 12, 13, 14]) (pssd_one (psd_ret pd_bl))))⟩) hs
end
end
/-! ### the end -/
theorem all_mk {l : PySem.W.OpenLaw} {w : World} {K : PySem.W.Frag} {h : Heap} {mg : Str → Option Value} {fa x0 x1 x2 x3 x4 x5 x6 x7 x8 x9 x10 x11 x12 x13 x14 x15 x16 x17 x18 x19 x20 x21 x22 x23 x24 x25 x26 x27 x28 x29 x30 : Addr} (X : K.In h) (G : h.Ns mainGlobals mg) (hfa : mg "law" = some (.ref fa))
    {od0 an0 od1 an1 od2 an2 od3 an3 od4 an4 od5 an5 od6 an6 od7 an7 od8 an8 od9 an9 od10 an10 od11 an11 od12 an12 od13 an13 od14 an14 od15 an15 od16 an16 od17 an17 od18 an18 od19 an19 od20 an20 od21 an21 od22 an22 od23 an23 od24 an24 od25 an25 od26 an26 od27 an27 od28 an28 od29 an29 od30 an30 : Option Addr} {sl0 sl1 sl2 sl3 sl4 sl5 sl6 sl7 sl8 sl9 sl10 sl11 sl12 sl13 sl14 sl15 sl16 sl17 sl18 sl19 sl20 sl21 sl22 sl23 sl24 sl25 sl26 sl27 sl28 sl29 sl30 : Array (Option Value)} {oc0 kV0 dc0 pm0 cd0 ct0 oc1 kV1 dc1 pm1 cd1 ct1 oc2 kV2 dc2 pm2 cd2 ct2 oc3 kV3 dc3 pm3 cd3 ct3 oc4 kV4 dc4 pm4 cd4 ct4 oc5 kV5 dc5 pm5 cd5 ct5 oc6 kV6 dc6 pm6 cd6 ct6 oc7 kV7 dc7 pm7 cd7 ct7 oc8 kV8 dc8 pm8 cd8 ct8 oc9 kV9 dc9 pm9 cd9 ct9 oc10 kV10 dc10 pm10 cd10 ct10 oc11 kV11 dc11 pm11 cd11 ct11 oc12 kV12 dc12 pm12 cd12 ct12 oc13 kV13 dc13 pm13 cd13 ct13 oc14 kV14 dc14 pm14 cd14 ct14 oc15 kV15 dc15 pm15 cd15 ct15 oc16 kV16 dc16 pm16 cd16 ct16 oc17 kV17 dc17 pm17 cd17 ct17 oc18 kV18 dc18 pm18 cd18 ct18 oc19 kV19 dc19 pm19 cd19 ct19 oc20 kV20 dc20 pm20 cd20 ct20 oc21 kV21 dc21 pm21 cd21 ct21 oc22 kV22 dc22 pm22 cd22 ct22 oc23 kV23 dc23 pm23 cd23 ct23 oc24 kV24 dc24 pm24 cd24 ct24 oc25 kV25 dc25 pm25 cd25 ct25 oc26 kV26 dc26 pm26 cd26 ct26 oc27 kV27 dc27 pm27 cd27 ct27 oc28 kV28 dc28 pm28 cd28 ct28 oc29 kV29 dc29 pm29 cd29 ct29 oc30 kV30 dc30 pm30 cd30 ct30 : Value} {tk_CELLS tk_SIDE : Tok}
    (hc : ∀ c : Int, 0 ≤ c → ∃ x y ρ, b__law_cup (En.only 2 1 (.sh (.int c))) = some (.rt (.fr (.list [.int x, .int y])) ρ) ∧ 0 ≤ x ∧ 0 ≤ y ∧ y < 10000000000)
    (hs : ∀ x y : Int, 0 ≤ x → 0 ≤ y → y < 10000000000 → ∃ ρ, b_law (En.only 15 1 (.own (.list [.int x, .int y]))) = some (.rt (.sh (.bool true)) ρ))
    (a0 : PySem.W.nsIn K mainGlobals "fits_whole" = some (some (.ref x0))) (l0 : K.lookup x0 = some ⟨oc0, od0, .func (PySem.W.fnOf "fits_whole" "fits_whole" (defArgs s_fits_whole) (defBody s_fits_whole) (defScope s_fits_whole) .none kV0 dc0 pm0 an0 cd0 ct0), sl0⟩) (c0 : PySem.W.codeIn K cd0 "fits_whole" = true) (k0 : PySem.W.keepIn K (.ref x0) = true)
    (a1 : PySem.W.nsIn K mainGlobals "is_tuple_of" = some (some (.ref x1))) (l1 : K.lookup x1 = some ⟨oc1, od1, .func (PySem.W.fnOf "is_tuple_of" "is_tuple_of" (defArgs s_is_tuple_of) (defBody s_is_tuple_of) (defScope s_is_tuple_of) .none kV1 dc1 pm1 an1 cd1 ct1), sl1⟩) (c1 : PySem.W.codeIn K cd1 "is_tuple_of" = true) (k1 : PySem.W.keepIn K (.ref x1) = true)
    (a2 : PySem.W.nsIn K mainGlobals "box_in" = some (some (.ref x2))) (l2 : K.lookup x2 = some ⟨oc2, od2, .func (PySem.W.fnOf "box_in" "box_in" (defArgs s_box_in) (defBody s_box_in) (defScope s_box_in) .none kV2 dc2 pm2 an2 cd2 ct2), sl2⟩) (c2 : PySem.W.codeIn K cd2 "box_in" = true) (k2 : PySem.W.keepIn K (.ref x2) = true)
    (a3 : PySem.W.nsIn K mainGlobals "full_block" = some (some (.ref x3))) (l3 : K.lookup x3 = some ⟨oc3, od3, .func (PySem.W.fnOf "full_block" "full_block" (defArgs s_full_block) (defBody s_full_block) (defScope s_full_block) .none kV3 dc3 pm3 an3 cd3 ct3), sl3⟩) (c3 : PySem.W.codeIn K cd3 "full_block" = true) (k3 : PySem.W.keepIn K (.ref x3) = true)
    (a4 : PySem.W.nsIn K mainGlobals "woven_in" = some (some (.ref x4))) (l4 : K.lookup x4 = some ⟨oc4, od4, .func (PySem.W.fnOf "woven_in" "woven_in" (defArgs s_woven_in) (defBody s_woven_in) (defScope s_woven_in) .none kV4 dc4 pm4 an4 cd4 ct4), sl4⟩) (c4 : PySem.W.codeIn K cd4 "woven_in" = true) (k4 : PySem.W.keepIn K (.ref x4) = true)
    (a5 : PySem.W.nsIn K mainGlobals "power_in" = some (some (.ref x5))) (l5 : K.lookup x5 = some ⟨oc5, od5, .func (PySem.W.fnOf "power_in" "power_in" (defArgs s_power_in) (defBody s_power_in) (defScope s_power_in) .none kV5 dc5 pm5 an5 cd5 ct5), sl5⟩) (c5 : PySem.W.codeIn K cd5 "power_in" = true) (k5 : PySem.W.keepIn K (.ref x5) = true)
    (a6 : PySem.W.nsIn K mainGlobals "need_fit" = some (some (.ref x6))) (l6 : K.lookup x6 = some ⟨oc6, od6, .func (PySem.W.fnOf "need_fit" "need_fit" (defArgs s_need_fit) (defBody s_need_fit) (defScope s_need_fit) .none kV6 dc6 pm6 an6 cd6 ct6), sl6⟩) (c6 : PySem.W.codeIn K cd6 "need_fit" = true) (k6 : PySem.W.keepIn K (.ref x6) = true)
    (a7 : PySem.W.nsIn K mainGlobals "blocks_of" = some (some (.ref x7))) (l7 : K.lookup x7 = some ⟨oc7, od7, .func (PySem.W.fnOf "blocks_of" "blocks_of" (defArgs s_blocks_of) (defBody s_blocks_of) (defScope s_blocks_of) .none kV7 dc7 pm7 an7 cd7 ct7), sl7⟩) (c7 : PySem.W.codeIn K cd7 "blocks_of" = true) (k7 : PySem.W.keepIn K (.ref x7) = true)
    (a8 : PySem.W.nsIn K mainGlobals "_law_cup" = some (some (.ref x8))) (l8 : K.lookup x8 = some ⟨oc8, od8, .func (PySem.W.fnOf "_law_cup" "_law_cup" (defArgs s__law_cup) (defBody s__law_cup) (defScope s__law_cup) .none kV8 dc8 pm8 an8 cd8 ct8), sl8⟩) (c8 : PySem.W.codeIn K cd8 "_law_cup" = true) (k8 : PySem.W.keepIn K (.ref x8) = true)
    (a9 : PySem.W.nsIn K mainGlobals "_law_roll" = some (some (.ref x9))) (l9 : K.lookup x9 = some ⟨oc9, od9, .func (PySem.W.fnOf "_law_roll" "_law_roll" (defArgs s__law_roll) (defBody s__law_roll) (defScope s__law_roll) .none kV9 dc9 pm9 an9 cd9 ct9), sl9⟩) (c9 : PySem.W.codeIn K cd9 "_law_roll" = true) (k9 : PySem.W.keepIn K (.ref x9) = true)
    (a10 : PySem.W.nsIn K mainGlobals "_law_box" = some (some (.ref x10))) (l10 : K.lookup x10 = some ⟨oc10, od10, .func (PySem.W.fnOf "_law_box" "_law_box" (defArgs s__law_box) (defBody s__law_box) (defScope s__law_box) .none kV10 dc10 pm10 an10 cd10 ct10), sl10⟩) (c10 : PySem.W.codeIn K cd10 "_law_box" = true) (k10 : PySem.W.keepIn K (.ref x10) = true)
    (a11 : PySem.W.nsIn K mainGlobals "fits_cell" = some (some (.ref x11))) (l11 : K.lookup x11 = some ⟨oc11, od11, .func (PySem.W.fnOf "fits_cell" "fits_cell" (defArgs s_fits_cell) (defBody s_fits_cell) (defScope s_fits_cell) .none kV11 dc11 pm11 an11 cd11 ct11), sl11⟩) (c11 : PySem.W.codeIn K cd11 "fits_cell" = true) (k11 : PySem.W.keepIn K (.ref x11) = true)
    (a12 : PySem.W.nsIn K mainGlobals "coarse_in" = some (some (.ref x12))) (l12 : K.lookup x12 = some ⟨oc12, od12, .func (PySem.W.fnOf "coarse_in" "coarse_in" (defArgs s_coarse_in) (defBody s_coarse_in) (defScope s_coarse_in) .none kV12 dc12 pm12 an12 cd12 ct12), sl12⟩) (c12 : PySem.W.codeIn K cd12 "coarse_in" = true) (k12 : PySem.W.keepIn K (.ref x12) = true)
    (a13 : PySem.W.nsIn K mainGlobals "_law_floor" = some (some (.ref x13))) (l13 : K.lookup x13 = some ⟨oc13, od13, .func (PySem.W.fnOf "_law_floor" "_law_floor" (defArgs s__law_floor) (defBody s__law_floor) (defScope s__law_floor) .none kV13 dc13 pm13 an13 cd13 ct13), sl13⟩) (c13 : PySem.W.codeIn K cd13 "_law_floor" = true) (k13 : PySem.W.keepIn K (.ref x13) = true)
    (a14 : PySem.W.nsIn K mainGlobals "_law_pattern" = some (some (.ref x14))) (l14 : K.lookup x14 = some ⟨oc14, od14, .func (PySem.W.fnOf "_law_pattern" "_law_pattern" (defArgs s__law_pattern) (defBody s__law_pattern) (defScope s__law_pattern) .none kV14 dc14 pm14 an14 cd14 ct14), sl14⟩) (c14 : PySem.W.codeIn K cd14 "_law_pattern" = true) (k14 : PySem.W.keepIn K (.ref x14) = true)
    (a15 : PySem.W.nsIn K mainGlobals "fits_floor" = some (some (.ref x15))) (l15 : K.lookup x15 = some ⟨oc15, od15, .func (PySem.W.fnOf "fits_floor" "fits_floor" (defArgs s_fits_floor) (defBody s_fits_floor) (defScope s_fits_floor) .none kV15 dc15 pm15 an15 cd15 ct15), sl15⟩) (c15 : PySem.W.codeIn K cd15 "fits_floor" = true) (k15 : PySem.W.keepIn K (.ref x15) = true)
    (a16 : PySem.W.nsIn K mainGlobals "need_floor" = some (some (.ref x16))) (l16 : K.lookup x16 = some ⟨oc16, od16, .func (PySem.W.fnOf "need_floor" "need_floor" (defArgs s_need_floor) (defBody s_need_floor) (defScope s_need_floor) .none kV16 dc16 pm16 an16 cd16 ct16), sl16⟩) (c16 : PySem.W.codeIn K cd16 "need_floor" = true) (k16 : PySem.W.keepIn K (.ref x16) = true)
    (a17 : PySem.W.nsIn K mainGlobals "need_scale" = some (some (.ref x17))) (l17 : K.lookup x17 = some ⟨oc17, od17, .func (PySem.W.fnOf "need_scale" "need_scale" (defArgs s_need_scale) (defBody s_need_scale) (defScope s_need_scale) .none kV17 dc17 pm17 an17 cd17 ct17), sl17⟩) (c17 : PySem.W.codeIn K cd17 "need_scale" = true) (k17 : PySem.W.keepIn K (.ref x17) = true)
    (a18 : PySem.W.nsIn K mainGlobals "need_block" = some (some (.ref x18))) (l18 : K.lookup x18 = some ⟨oc18, od18, .func (PySem.W.fnOf "need_block" "need_block" (defArgs s_need_block) (defBody s_need_block) (defScope s_need_block) .none kV18 dc18 pm18 an18 cd18 ct18), sl18⟩) (c18 : PySem.W.codeIn K cd18 "need_block" = true) (k18 : PySem.W.keepIn K (.ref x18) = true)
    (a19 : PySem.W.nsIn K mainGlobals "enlarged" = some (some (.ref x19))) (l19 : K.lookup x19 = some ⟨oc19, od19, .func (PySem.W.fnOf "enlarged" "enlarged" (defArgs s_enlarged) (defBody s_enlarged) (defScope s_enlarged) .none kV19 dc19 pm19 an19 cd19 ct19), sl19⟩) (c19 : PySem.W.codeIn K cd19 "enlarged" = true) (k19 : PySem.W.keepIn K (.ref x19) = true)
    (a20 : PySem.W.nsIn K mainGlobals "lessened" = some (some (.ref x20))) (l20 : K.lookup x20 = some ⟨oc20, od20, .func (PySem.W.fnOf "lessened" "lessened" (defArgs s_lessened) (defBody s_lessened) (defScope s_lessened) .none kV20 dc20 pm20 an20 cd20 ct20), sl20⟩) (c20 : PySem.W.codeIn K cd20 "lessened" = true) (k20 : PySem.W.keepIn K (.ref x20) = true)
    (a21 : PySem.W.nsIn K mainGlobals "need_pattern" = some (some (.ref x21))) (l21 : K.lookup x21 = some ⟨oc21, od21, .func (PySem.W.fnOf "need_pattern" "need_pattern" (defArgs s_need_pattern) (defBody s_need_pattern) (defScope s_need_pattern) .none kV21 dc21 pm21 an21 cd21 ct21), sl21⟩) (c21 : PySem.W.codeIn K cd21 "need_pattern" = true) (k21 : PySem.W.keepIn K (.ref x21) = true)
    (a22 : PySem.W.nsIn K mainGlobals "unwoven" = some (some (.ref x22))) (l22 : K.lookup x22 = some ⟨oc22, od22, .func (PySem.W.fnOf "unwoven" "unwoven" (defArgs s_unwoven) (defBody s_unwoven) (defScope s_unwoven) .none kV22 dc22 pm22 an22 cd22 ct22), sl22⟩) (c22 : PySem.W.codeIn K cd22 "unwoven" = true) (k22 : PySem.W.keepIn K (.ref x22) = true)
    (a23 : PySem.W.nsIn K mainGlobals "is_woven" = some (some (.ref x23))) (l23 : K.lookup x23 = some ⟨oc23, od23, .func (PySem.W.fnOf "is_woven" "is_woven" (defArgs s_is_woven) (defBody s_is_woven) (defScope s_is_woven) .none kV23 dc23 pm23 an23 cd23 ct23), sl23⟩) (c23 : PySem.W.codeIn K cd23 "is_woven" = true) (k23 : PySem.W.keepIn K (.ref x23) = true)
    (a24 : PySem.W.nsIn K mainGlobals "woven" = some (some (.ref x24))) (l24 : K.lookup x24 = some ⟨oc24, od24, .func (PySem.W.fnOf "woven" "woven" (defArgs s_woven) (defBody s_woven) (defScope s_woven) .none kV24 dc24 pm24 an24 cd24 ct24), sl24⟩) (c24 : PySem.W.codeIn K cd24 "woven" = true) (k24 : PySem.W.keepIn K (.ref x24) = true)
    (a25 : PySem.W.nsIn K mainGlobals "woven_times" = some (some (.ref x25))) (l25 : K.lookup x25 = some ⟨oc25, od25, .func (PySem.W.fnOf "woven_times" "woven_times" (defArgs s_woven_times) (defBody s_woven_times) (defScope s_woven_times) .none kV25 dc25 pm25 an25 cd25 ct25), sl25⟩) (c25 : PySem.W.codeIn K cd25 "woven_times" = true) (k25 : PySem.W.keepIn K (.ref x25) = true)
    (a26 : PySem.W.nsIn K mainGlobals "weaves_of" = some (some (.ref x26))) (l26 : K.lookup x26 = some ⟨oc26, od26, .func (PySem.W.fnOf "weaves_of" "weaves_of" (defArgs s_weaves_of) (defBody s_weaves_of) (defScope s_weaves_of) .none kV26 dc26 pm26 an26 cd26 ct26), sl26⟩) (c26 : PySem.W.codeIn K cd26 "weaves_of" = true) (k26 : PySem.W.keepIn K (.ref x26) = true)
    (a27 : PySem.W.nsIn K mainGlobals "_law_same" = some (some (.ref x27))) (l27 : K.lookup x27 = some ⟨oc27, od27, .func (PySem.W.fnOf "_law_same" "_law_same" (defArgs s__law_same) (defBody s__law_same) (defScope s__law_same) .none kV27 dc27 pm27 an27 cd27 ct27), sl27⟩) (c27 : PySem.W.codeIn K cd27 "_law_same" = true) (k27 : PySem.W.keepIn K (.ref x27) = true)
    (a28 : PySem.W.nsIn K mainGlobals "_law_rows_right" = some (some (.ref x28))) (l28 : K.lookup x28 = some ⟨oc28, od28, .func (PySem.W.fnOf "_law_rows_right" "_law_rows_right" (defArgs s__law_rows_right) (defBody s__law_rows_right) (defScope s__law_rows_right) .none kV28 dc28 pm28 an28 cd28 ct28), sl28⟩) (c28 : PySem.W.codeIn K cd28 "_law_rows_right" = true) (k28 : PySem.W.keepIn K (.ref x28) = true)
    (a29 : PySem.W.nsIn K mainGlobals "_law_three_right" = some (some (.ref x29))) (l29 : K.lookup x29 = some ⟨oc29, od29, .func (PySem.W.fnOf "_law_three_right" "_law_three_right" (defArgs s__law_three_right) (defBody s__law_three_right) (defScope s__law_three_right) .none kV29 dc29 pm29 an29 cd29 ct29), sl29⟩) (c29 : PySem.W.codeIn K cd29 "_law_three_right" = true) (k29 : PySem.W.keepIn K (.ref x29) = true)
    (a30 : PySem.W.nsIn K mainGlobals "law" = some (some (.ref x30))) (l30 : K.lookup x30 = some ⟨oc30, od30, .func (PySem.W.fnOf "law" "law" (defArgs s_law) (defBody s_law) (defScope s_law) .none kV30 dc30 pm30 an30 cd30 ct30), sl30⟩) (c30 : PySem.W.codeIn K cd30 "law" = true) (k30 : PySem.W.keepIn K (.ref x30) = true)
    (z_abs : PySem.W.nsIn K mainGlobals "abs" = some none)
    (z_all : PySem.W.nsIn K mainGlobals "all" = some none)
    (z_bool : PySem.W.nsIn K mainGlobals "bool" = some none)
    (z_int : PySem.W.nsIn K mainGlobals "int" = some none)
    (z_isinstance : PySem.W.nsIn K mainGlobals "isinstance" = some none)
    (z_len : PySem.W.nsIn K mainGlobals "len" = some none)
    (z_list : PySem.W.nsIn K mainGlobals "list" = some none)
    (z_max : PySem.W.nsIn K mainGlobals "max" = some none)
    (z_min : PySem.W.nsIn K mainGlobals "min" = some none)
    (z_range : PySem.W.nsIn K mainGlobals "range" = some none)
    (z_set : PySem.W.nsIn K mainGlobals "set" = some none)
    (z_sorted : PySem.W.nsIn K mainGlobals "sorted" = some none)
    (z_str : PySem.W.nsIn K mainGlobals "str" = some none)
    (z_tuple : PySem.W.nsIn K mainGlobals "tuple" = some none)
    (z_zip : PySem.W.nsIn K mainGlobals "zip" = some none)
    (g_CELLS : PySem.W.nsIn K mainGlobals "CELLS" = some (some (.int (400) tk_CELLS)))
    (g_SIDE : PySem.W.nsIn K mainGlobals "SIDE" = some (some (.int (60) tk_SIDE)))
    : ∃ fd : FuncData, (∀ (s : Shared) (v : Value), BindsTo s fd ⟨[v], []⟩ [("script", v)]) ∧ ∀ base : Heap, K.In base → base.Ns mainGlobals mg → FnOk l.prog w K mg base CX0 11 fa fd ["script"] (spLaw K) := by
  have e := hfa.symm.trans (PySem.W.mg_of X G a30)
  cases e
  have F0 := fun_mk (st := s_fits_whole) l0 c0 k0
  have B0 := F0.binds (ps := ["value", "low", "high"]) fun _ _ _ _ _ _ us hl => match us, hl with | [_, _, _], _ => rfl
  have F1 := fun_mk (st := s_is_tuple_of) l1 c1 k1
  have B1 := F1.binds (ps := ["value", "least", "most"]) fun _ _ _ _ _ _ us hl => match us, hl with | [_, _, _], _ => rfl
  have F2 := fun_mk (st := s_box_in) l2 c2 k2
  have B2 := F2.binds (ps := ["cells"]) fun _ _ _ _ _ _ us hl => match us, hl with | [_], _ => rfl
  have F3 := fun_mk (st := s_full_block) l3 c3 k3
  have B3 := F3.binds (ps := ["times"]) fun _ _ _ _ _ _ us hl => match us, hl with | [_], _ => rfl
  have F4 := fun_mk (st := s_woven_in) l4 c4 k4
  have B4 := F4.binds (ps := ["cells", "pattern", "high", "wide"]) fun _ _ _ _ _ _ us hl => match us, hl with | [_, _, _, _], _ => rfl
  have F5 := fun_mk (st := s_power_in) l5 c5 k5
  have B5 := F5.binds (ps := ["number", "times"]) fun _ _ _ _ _ _ us hl => match us, hl with | [_, _], _ => rfl
  have F6 := fun_mk (st := s_need_fit) l6 c6 k6
  have B6 := F6.binds (ps := ["cells"]) fun _ _ _ _ _ _ us hl => match us, hl with | [_], _ => rfl
  have F7 := fun_mk (st := s_blocks_of) l7 c7 k7
  have B7 := F7.binds (ps := ["floor", "high", "wide"]) fun _ _ _ _ _ _ us hl => match us, hl with | [_, _, _], _ => rfl
  have F8 := fun_mk (st := s__law_cup) l8 c8 k8
  have B8 := F8.binds (ps := ["script"]) fun _ _ _ _ _ _ us hl => match us, hl with | [_], _ => rfl
  have F9 := fun_mk (st := s__law_roll) l9 c9 k9
  have B9 := F9.binds (ps := ["cup", "many"]) fun _ _ _ _ _ _ us hl => match us, hl with | [_, _], _ => rfl
  have F10 := fun_mk (st := s__law_box) l10 c10 k10
  have B10 := F10.binds (ps := ["high", "wide"]) fun _ _ _ _ _ _ us hl => match us, hl with | [_, _], _ => rfl
  have F11 := fun_mk (st := s_fits_cell) l11 c11 k11
  have B11 := F11.binds (ps := ["value"]) fun _ _ _ _ _ _ us hl => match us, hl with | [_], _ => rfl
  have F12 := fun_mk (st := s_coarse_in) l12 c12 k12
  have B12 := F12.binds (ps := ["floor", "times", "least"]) fun _ _ _ _ _ _ us hl => match us, hl with | [_, _, _], _ => rfl
  have F13 := fun_mk (st := s__law_floor) l13 c13 k13
  have B13 := F13.binds (ps := ["cup", "many", "side"]) fun _ _ _ _ _ _ us hl => match us, hl with | [_, _, _], _ => rfl
  have F14 := fun_mk (st := s__law_pattern) l14 c14 k14
  have B14 := F14.binds (ps := ["cup", "high", "wide"]) fun _ _ _ _ _ _ us hl => match us, hl with | [_, _, _], _ => rfl
  have F15 := fun_mk (st := s_fits_floor) l15 c15 k15
  have B15 := F15.binds (ps := ["value"]) fun _ _ _ _ _ _ us hl => match us, hl with | [_], _ => rfl
  have F16 := fun_mk (st := s_need_floor) l16 c16 k16
  have B16 := F16.binds (ps := ["floor"]) fun _ _ _ _ _ _ us hl => match us, hl with | [_], _ => rfl
  have F17 := fun_mk (st := s_need_scale) l17 c17 k17
  have B17 := F17.binds (ps := ["floor", "times"]) fun _ _ _ _ _ _ us hl => match us, hl with | [_, _], _ => rfl
  have F18 := fun_mk (st := s_need_block) l18 c18 k18
  have B18 := F18.binds (ps := ["floor", "high", "wide"]) fun _ _ _ _ _ _ us hl => match us, hl with | [_, _, _], _ => rfl
  have F19 := fun_mk (st := s_enlarged) l19 c19 k19
  have B19 := F19.binds (ps := ["floor", "times"]) fun _ _ _ _ _ _ us hl => match us, hl with | [_, _], _ => rfl
  have F20 := fun_mk (st := s_lessened) l20 c20 k20
  have B20 := F20.binds (ps := ["floor", "times"]) fun _ _ _ _ _ _ us hl => match us, hl with | [_, _], _ => rfl
  have F21 := fun_mk (st := s_need_pattern) l21 c21 k21
  have B21 := F21.binds (ps := ["floor", "high", "wide", "pattern"]) fun _ _ _ _ _ _ us hl => match us, hl with | [_, _, _, _], _ => rfl
  have F22 := fun_mk (st := s_unwoven) l22 c22 k22
  have B22 := F22.binds (ps := ["floor", "high", "wide"]) fun _ _ _ _ _ _ us hl => match us, hl with | [_, _, _], _ => rfl
  have F23 := fun_mk (st := s_is_woven) l23 c23 k23
  have B23 := F23.binds (ps := ["floor", "high", "wide", "value"]) fun _ _ _ _ _ _ us hl => match us, hl with | [_, _, _, _], _ => rfl
  have F24 := fun_mk (st := s_woven) l24 c24 k24
  have B24 := F24.binds (ps := ["floor", "high", "wide", "pattern"]) fun _ _ _ _ _ _ us hl => match us, hl with | [_, _, _, _], _ => rfl
  have F25 := fun_mk (st := s_woven_times) l25 c25 k25
  have B25 := F25.binds (ps := ["floor", "high", "wide", "many"]) fun _ _ _ _ _ _ us hl => match us, hl with | [_, _, _, _], _ => rfl
  have F26 := fun_mk (st := s_weaves_of) l26 c26 k26
  have B26 := F26.binds (ps := ["floor"]) fun _ _ _ _ _ _ us hl => match us, hl with | [_], _ => rfl
  have F27 := fun_mk (st := s__law_same) l27 c27 k27
  have B27 := F27.binds (ps := ["told", "due"]) fun _ _ _ _ _ _ us hl => match us, hl with | [_, _], _ => rfl
  have F28 := fun_mk (st := s__law_rows_right) l28 c28 k28
  have B28 := F28.binds (ps := []) fun _ _ _ _ _ _ us hl => match us, hl with | [], _ => rfl
  have F29 := fun_mk (st := s__law_three_right) l29 c29 k29
  have B29 := F29.binds (ps := ["cup", "floor"]) fun _ _ _ _ _ _ us hl => match us, hl with | [_, _], _ => rfl
  have F30 := fun_mk (st := s_law) l30 c30 k30
  have B30 := F30.binds (ps := ["script"]) fun _ _ _ _ _ _ us hl => match us, hl with | [_], _ => rfl
  exact ⟨_, fun s v => .of_eq rfl, fun base _ _ => ok_law {
      f_fits_whole := _, fd_fits_whole := _, F_fits_whole := F0, b_fits_whole := B0, g_fits_whole := PySem.W.mg_of X G a0,
      f_is_tuple_of := _, fd_is_tuple_of := _, F_is_tuple_of := F1, b_is_tuple_of := B1, g_is_tuple_of := PySem.W.mg_of X G a1,
      f_box_in := _, fd_box_in := _, F_box_in := F2, b_box_in := B2, g_box_in := PySem.W.mg_of X G a2,
      f_full_block := _, fd_full_block := _, F_full_block := F3, b_full_block := B3, g_full_block := PySem.W.mg_of X G a3,
      f_woven_in := _, fd_woven_in := _, F_woven_in := F4, b_woven_in := B4, g_woven_in := PySem.W.mg_of X G a4,
      f_power_in := _, fd_power_in := _, F_power_in := F5, b_power_in := B5, g_power_in := PySem.W.mg_of X G a5,
      f_need_fit := _, fd_need_fit := _, F_need_fit := F6, b_need_fit := B6, g_need_fit := PySem.W.mg_of X G a6,
      f_blocks_of := _, fd_blocks_of := _, F_blocks_of := F7, b_blocks_of := B7, g_blocks_of := PySem.W.mg_of X G a7,
      f__law_cup := _, fd__law_cup := _, F__law_cup := F8, b__law_cup := B8, g__law_cup := PySem.W.mg_of X G a8,
      f__law_roll := _, fd__law_roll := _, F__law_roll := F9, b__law_roll := B9, g__law_roll := PySem.W.mg_of X G a9,
      f__law_box := _, fd__law_box := _, F__law_box := F10, b__law_box := B10, g__law_box := PySem.W.mg_of X G a10,
      f_fits_cell := _, fd_fits_cell := _, F_fits_cell := F11, b_fits_cell := B11, g_fits_cell := PySem.W.mg_of X G a11,
      f_coarse_in := _, fd_coarse_in := _, F_coarse_in := F12, b_coarse_in := B12, g_coarse_in := PySem.W.mg_of X G a12,
      f__law_floor := _, fd__law_floor := _, F__law_floor := F13, b__law_floor := B13, g__law_floor := PySem.W.mg_of X G a13,
      f__law_pattern := _, fd__law_pattern := _, F__law_pattern := F14, b__law_pattern := B14, g__law_pattern := PySem.W.mg_of X G a14,
      f_fits_floor := _, fd_fits_floor := _, F_fits_floor := F15, b_fits_floor := B15, g_fits_floor := PySem.W.mg_of X G a15,
      f_need_floor := _, fd_need_floor := _, F_need_floor := F16, b_need_floor := B16, g_need_floor := PySem.W.mg_of X G a16,
      f_need_scale := _, fd_need_scale := _, F_need_scale := F17, b_need_scale := B17, g_need_scale := PySem.W.mg_of X G a17,
      f_need_block := _, fd_need_block := _, F_need_block := F18, b_need_block := B18, g_need_block := PySem.W.mg_of X G a18,
      f_enlarged := _, fd_enlarged := _, F_enlarged := F19, b_enlarged := B19, g_enlarged := PySem.W.mg_of X G a19,
      f_lessened := _, fd_lessened := _, F_lessened := F20, b_lessened := B20, g_lessened := PySem.W.mg_of X G a20,
      f_need_pattern := _, fd_need_pattern := _, F_need_pattern := F21, b_need_pattern := B21, g_need_pattern := PySem.W.mg_of X G a21,
      f_unwoven := _, fd_unwoven := _, F_unwoven := F22, b_unwoven := B22, g_unwoven := PySem.W.mg_of X G a22,
      f_is_woven := _, fd_is_woven := _, F_is_woven := F23, b_is_woven := B23, g_is_woven := PySem.W.mg_of X G a23,
      f_woven := _, fd_woven := _, F_woven := F24, b_woven := B24, g_woven := PySem.W.mg_of X G a24,
      f_woven_times := _, fd_woven_times := _, F_woven_times := F25, b_woven_times := B25, g_woven_times := PySem.W.mg_of X G a25,
      f_weaves_of := _, fd_weaves_of := _, F_weaves_of := F26, b_weaves_of := B26, g_weaves_of := PySem.W.mg_of X G a26,
      f__law_same := _, fd__law_same := _, F__law_same := F27, b__law_same := B27, g__law_same := PySem.W.mg_of X G a27,
      f__law_rows_right := _, fd__law_rows_right := _, F__law_rows_right := F28, b__law_rows_right := B28, g__law_rows_right := PySem.W.mg_of X G a28,
      f__law_three_right := _, fd__law_three_right := _, F__law_three_right := F29, b__law_three_right := B29, g__law_three_right := PySem.W.mg_of X G a29,
      f_law := _, fd_law := _, F_law := F30, b_law := B30, g_law := PySem.W.mg_of X G a30,
      z_abs := PySem.W.mg_none_of X G z_abs,
      z_all := PySem.W.mg_none_of X G z_all,
      z_bool := PySem.W.mg_none_of X G z_bool,
      z_int := PySem.W.mg_none_of X G z_int,
      z_isinstance := PySem.W.mg_none_of X G z_isinstance,
      z_len := PySem.W.mg_none_of X G z_len,
      z_list := PySem.W.mg_none_of X G z_list,
      z_max := PySem.W.mg_none_of X G z_max,
      z_min := PySem.W.mg_none_of X G z_min,
      z_range := PySem.W.mg_none_of X G z_range,
      z_set := PySem.W.mg_none_of X G z_set,
      z_sorted := PySem.W.mg_none_of X G z_sorted,
      z_str := PySem.W.mg_none_of X G z_str,
      z_tuple := PySem.W.mg_none_of X G z_tuple,
      z_zip := PySem.W.mg_none_of X G z_zip,
      t_CELLS := tk_CELLS, g_CELLS := PySem.W.mg_of X G g_CELLS,
      t_SIDE := tk_SIDE, g_SIDE := PySem.W.mg_of X G g_SIDE } hc hs⟩

end PD.K81
set_option Elab.async false
set_option linter.all false
set_option maxRecDepth 100000
set_option maxHeartbeats 4000000
namespace PD.K81
set_option autoImplicit false
open PySem PySem.Spec L2 PD
open PyProof.Rows hiding St
local macro_rules | `(tactic| walk_at "pd") => `(tactic| simp only [dC, dVar, dBin, dCmp_ap, dCmpT, wB, dChainT, dOfT, dTruT, dAndT, dOrT, dNotT, dAndV, dOrV, dNotV, dIf, dNeg, dNil, dCons, gives, give_vr, give_sh, give_fr, get_sh, get_fr, get_vr, En.at, En.with, Sl.d, dTup, dLst, dCut, dNo, dPart, bCut, dNx, dSeq, dIfS, dRet, dRetN, dBk, dCt, dDrop, dStIx, set_l0, set_l1, gN, gCons, gTup, gNil, dSet, dPar, dUnp, settle, puts, En.put, En.set, dItems, dRg1, dRg2, itemsOf, dB1, semOf, slots, endOf, dCall, gets, light_f, light_t, wOf_f, wOf_t, is_nn, is_bn, is_in, is_sn, is_ln, is_tn, is_bb, isn_nn, isn_bn, isn_in, isn_sn, isn_ln, isn_tn, isn_bb, tyD_list, tyD_dict, eq_self, imm_none, imm_bool, imm_int, imm_str, imm_tup, imm_list, imms_nil, imms_cons, inner_list,
  isi_int, isi_bool, isi_tuple, isi_list, isi_str, isi_dict, isInt, isBool, isTup, isLst, isStr, isDic, En.wipe, wipeS, restoreS, dMut, En.mine, En.own, dEnum, dZip, len_floor, len_cells, len_pr, tup_cells, tup_floor, lst_floor, lst_cells, imm_pr, imm_floor, imms_prs, inner_cells, in_floor, in_cells, notIn_floor, notIn_cells, ne_cells_nil, eq_cells_nil, ne_floor_nil, eq_floor_nil, eq_floor, ne_floor, eq_cells, ne_cells, eq_pr, ne_pr, lt_pr, sort_cells, sortA_cells, ix_pr0, ix_pr1, tru_floor, tru_cells, isTup_floor, isTup_pr, isLst_cells, isLst_floor, max_pr, dNewT, dNewK, tru_none, tru_bool, tru_int, tru_list, tru_tup, len_list, len_tup, len_dict, PD.add_int, PD.sub_int, int_int, abs_int, le_int, lt_int, gt_int, ge_int, PD.eq_int, PD.ne_int, PD.ne_bool, PD.eq_bool, PD.eq_nil, ix_tup0, ix_tup1, ix_tup2, ix_tup3, ix_list0, ix_list1, tup_list, tup_tup, lst_list, lst_tup, dCallC, notVr, semC,
  Option.bind_some, Option.map_some, Option.bind_none, Option.map_none, List.getElem?_cons_zero, List.getElem?_cons_succ, List.length_cons, List.length_nil, List.map_cons, List.map_nil, List.replicate, List.append_nil, List.nil_append, List.cons_append, List.set_cons_zero, List.set_cons_succ, List.all_cons, List.all_nil, Nat.sub_self, Nat.reduceAdd, Nat.reduceSub, Nat.reduceLT, Nat.reduceEqDiff, List.mem_cons, List.not_mem_nil,  Nat.reduceLeDiff, if_true, if_false, reduceIte, ite_self, Bool.false_eq_true, Bool.not_true, Bool.not_false, decide_true, decide_false, Option.getD_some, Option.getD_none, Bool.true_and, Bool.and_true, Bool.false_and, Bool.and_false, false_and, and_false, true_and, and_true, not_true_eq_false, not_false_eq_true, or_self, or_false, false_or, List.isEmpty_cons, List.isEmpty_nil, Nat.zero_ne_one])
local macro_rules | `(tactic| walk_at "pd*") => `(tactic| simp only [dC, dVar, dBin, dCmp_ap, dCmpT, wB, dChainT, dOfT, dTruT, dAndT, dOrT, dNotT, dAndV, dOrV, dNotV, dIf, dNeg, dNil, dCons, gives, give_vr, give_sh, give_fr, get_sh, get_fr, get_vr, En.at, En.with, Sl.d, dTup, dLst, dCut, dNo, dPart, bCut, dNx, dSeq, dIfS, dRet, dRetN, dBk, dCt, dDrop, dStIx, set_l0, set_l1, gN, gCons, gTup, gNil, dSet, dPar, dUnp, settle, puts, En.put, En.set, dItems, dRg1, dRg2, itemsOf, dB1, semOf, slots, endOf, dCall, gets, light_f, light_t, wOf_f, wOf_t, is_nn, is_bn, is_in, is_sn, is_ln, is_tn, is_bb, isn_nn, isn_bn, isn_in, isn_sn, isn_ln, isn_tn, isn_bb, tyD_list, tyD_dict, eq_self, imm_none, imm_bool, imm_int, imm_str, imm_tup, imm_list, imms_nil, imms_cons, inner_list,
  isi_int, isi_bool, isi_tuple, isi_list, isi_str, isi_dict, isInt, isBool, isTup, isLst, isStr, isDic, En.wipe, wipeS, restoreS, dMut, En.mine, En.own, dEnum, dZip, len_floor, len_cells, len_pr, tup_cells, tup_floor, lst_floor, lst_cells, imm_pr, imm_floor, imms_prs, inner_cells, in_floor, in_cells, notIn_floor, notIn_cells, ne_cells_nil, eq_cells_nil, ne_floor_nil, eq_floor_nil, eq_floor, ne_floor, eq_cells, ne_cells, eq_pr, ne_pr, lt_pr, sort_cells, sortA_cells, ix_pr0, ix_pr1, tru_floor, tru_cells, isTup_floor, isTup_pr, isLst_cells, isLst_floor, max_pr, dNewT, dNewK, tru_none, tru_bool, tru_int, tru_list, tru_tup, len_list, len_tup, len_dict, PD.add_int, PD.sub_int, int_int, abs_int, le_int, lt_int, gt_int, ge_int, PD.eq_int, PD.ne_int, PD.ne_bool, PD.eq_bool, PD.eq_nil, ix_tup0, ix_tup1, ix_tup2, ix_tup3, ix_list0, ix_list1, tup_list, tup_tup, lst_list, lst_tup, dCallC, notVr, semC,
  Option.bind_some, Option.map_some, Option.bind_none, Option.map_none, List.getElem?_cons_zero, List.getElem?_cons_succ, List.length_cons, List.length_nil, List.map_cons, List.map_nil, List.replicate, List.append_nil, List.nil_append, List.cons_append, List.set_cons_zero, List.set_cons_succ, List.all_cons, List.all_nil, Nat.sub_self, Nat.reduceAdd, Nat.reduceSub, Nat.reduceLT, Nat.reduceEqDiff, List.mem_cons, List.not_mem_nil,  Nat.reduceLeDiff, if_true, if_false, reduceIte, ite_self, Bool.false_eq_true, Bool.not_true, Bool.not_false, decide_true, decide_false, Option.getD_some, Option.getD_none, Bool.true_and, Bool.and_true, Bool.false_and, Bool.and_false, false_and, and_false, true_and, and_true, not_true_eq_false, not_false_eq_true, or_self, or_false, false_or, List.isEmpty_cons, List.isEmpty_nil, Nat.zero_ne_one, *])
/-! ### cells -/
theorem d_is_tuple_of (xs : List D) (a b : Int) : m_is_tuple_of [.tuple xs, .int a, .int b] = some (false, .bool (decide (a ≤ (xs.length : Int) ∧ (xs.length : Int) ≤ b))) := by
  unfold m_is_tuple_of b_is_tuple_of
  walk_at "pd"
  by_cases h : a ≤ (xs.length : Int) <;> simp only [h] <;> walk_at "pd"
theorem d_fits_whole (v a b : Int) : m_fits_whole [.int v, .int a, .int b] = some (false, .bool (decide (a ≤ v ∧ v ≤ b))) := by
  unfold m_fits_whole b_fits_whole
  walk_at "pd"
  by_cases h : a ≤ v <;> simp only [h] <;> walk_at "pd"
theorem d_fits_cell (p : P) (h : (0 ≤ p.1 ∧ p.1 ≤ 59) ∧ 0 ≤ p.2 ∧ p.2 ≤ 59) : m_fits_cell [prD p] = some (false, .bool true) := by
  have c1 : m_is_tuple_of [prD p, .int 2, .int 2] = some (false, .bool true) := by unfold prD; rw [d_is_tuple_of]; rfl
  have lc : dLc (dItems (dVar 0)) (gN 1) dYes (dCall m_fits_whole (dCons (dVar 1) (dCons (dC (.int 0)) (dCons (dBin bSub (dC (.int (60))) (dC (.int 1))) dNil)))) [1] ⟨false, [some (.sh (prD p)), none]⟩ = some (.fr (.list ([p.1, p.2].map fun _ => .bool true)), ⟨false, [some (.sh (prD p)), none]⟩) := by
    refine dLc_sh (emb := PyData.int) _ [p.1, p.2] (by unfold prD; walk_at "pd") rfl (by show 2 ≤ 16777216; decide) fun x hx => ?_
    have hb : 0 ≤ x ∧ x ≤ 59 := by
      simp only [List.mem_cons, List.not_mem_nil, or_false] at hx
      rcases hx with rfl | rfl
      · exact h.1
      · exact h.2
    have e := d_fits_whole x 0 (60 - 1)
    rw [decide_eq_true (show 0 ≤ x ∧ x ≤ 60 - 1 from ⟨hb.1, by omega⟩)] at e
    clear h hx hb c1
    walk_at "pd*"
  have ba : bAll (.list [.bool true, .bool true]) = some (.sh (.bool true)) := bAll_true (l := [p.1, p.2]) (k := fun _ => PyData.bool true) fun _ _ => rfl
  unfold m_fits_cell b_fits_cell
  clear h
  walk_at "pd*"
theorem d_fits_floor {l : List P} (h : Flo l) : m_fits_floor [floorD l] = some (false, .bool true) := by
  have h1 := h.pos
  have h2 := h.len
  have c1 : m_is_tuple_of [floorD l, .int 1, .int 400] = some (false, .bool true) := by unfold floorD; rw [d_is_tuple_of, List.length_map, decide_eq_true (by omega)]
  have l1 : dLc (dItems (dVar 0)) (gN 1) dYes (dCall m_fits_cell (dCons (dVar 1) dNil)) [1] ⟨false, [some (.sh (floorD l)), none, none, none]⟩ = some (.fr (.list (l.map fun _ => .bool true)), ⟨false, [some (.sh (floorD l)), none, none, none]⟩) := by
    refine dLc_sh (emb := prD) _ l (items_floor rfl) rfl (by omega) fun x hx => ?_
    have e := d_fits_cell x (h.rng x hx)
    clear h h1 h2 c1
    walk_at "pd*"
  have l2 : dLc (dZip (dCons (dVar 0) (dCons (dCut (dVar 0) (dPart (dC (.int 1))) dNo) dNil))) (gTup 2 (gCons (gN 2) (gCons (gN 3) gNil))) dYes (dCmp cLt (dVar 2) (dVar 3)) [2, 3] ⟨false, [some (.sh (floorD l)), none, none, none]⟩ = some (.fr (.list ((l.zip (l.drop 1)).map fun _ => .bool true)), ⟨false, [some (.sh (floorD l)), none, none, none]⟩) := by
    have fi : dZip (dCons (dVar 0) (dCons (dCut (dVar 0) (dPart (dC (.int 1))) dNo) dNil)) ⟨false, [some (.sh (floorD l)), none, none, none]⟩ = some ((l.zip (l.drop 1)).map (fun x => PyData.tuple [prD x.1, prD x.2]), ⟨false, [some (.sh (floorD l)), none, none, none]⟩) := by
      rw [← zip_next]
      unfold floorD
      walk_at "pd"
      rw [cut_tail]
      rfl
    have := dLc_two (i := 2) (j := 3) (e1 := fun x : P × P => prD x.1) (e2 := fun x : P × P => prD x.2) (ft := dYes) (fe := dCmp cLt (dVar 2) (dVar 3)) (fun _ => true) (fun _ => .bool true) (l.zip (l.drop 1)) fi rfl (by rw [List.length_zip]; omega) (fun _ _ => rfl) (fun x hx _ => .inl ?_)
    · have e : (l.zip (l.drop 1)).filter (fun _ => true) = l.zip (l.drop 1) := List.filter_eq_self.mpr fun _ _ => rfl
      rwa [e] at this
    · have e := lt_pr x.1 x.2
      rw [decide_eq_true (next_lt h.ss x hx)] at e
      clear h h1 h2 c1 l1 fi hx
      walk_at "pd*"
  have b1 := bAll_true (l := l) (k := fun _ => PyData.bool true) fun _ _ => rfl
  have b2 := bAll_true (l := l.zip (l.drop 1)) (k := fun _ => PyData.bool true) fun _ _ => rfl
  have i0 := imm_floor l
  unfold m_fits_floor b_fits_floor
  clear h h1 h2
  walk_at "pd*"
theorem d_need_floor {l : List P} (h : Flo l) : m_need_floor [floorD l] = some (false, .none) := by
  have i0 := imm_floor l
  have e := d_fits_floor h
  unfold m_need_floor b_need_floor
  clear h
  walk_at "pd*"
end PD.K81
set_option Elab.async false
set_option linter.all false
set_option maxRecDepth 100000
set_option maxHeartbeats 4000000
namespace PD.K81
set_option autoImplicit false
open PySem PySem.Spec L2 PD
open PyProof.Rows hiding St
local macro_rules | `(tactic| walk_at "pd") => `(tactic| simp only [dC, dVar, dBin, dCmp_ap, dCmpT, wB, dChainT, dOfT, dTruT, dAndT, dOrT, dNotT, dAndV, dOrV, dNotV, dIf, dNeg, dNil, dCons, gives, give_vr, give_sh, give_fr, get_sh, get_fr, get_vr, En.at, En.with, Sl.d, dTup, dLst, dCut, dNo, dPart, bCut, dNx, dSeq, dIfS, dRet, dRetN, dBk, dCt, dDrop, dStIx, set_l0, set_l1, gN, gCons, gTup, gNil, dSet, dPar, dUnp, settle, puts, En.put, En.set, dItems, dRg1, dRg2, itemsOf, dB1, semOf, slots, endOf, dCall, gets, light_f, light_t, wOf_f, wOf_t, is_nn, is_bn, is_in, is_sn, is_ln, is_tn, is_bb, isn_nn, isn_bn, isn_in, isn_sn, isn_ln, isn_tn, isn_bb, tyD_list, tyD_dict, eq_self, imm_none, imm_bool, imm_int, imm_str, imm_tup, imm_list, imms_nil, imms_cons, inner_list,
  isi_int, isi_bool, isi_tuple, isi_list, isi_str, isi_dict, isInt, isBool, isTup, isLst, isStr, isDic, En.wipe, wipeS, restoreS, dMut, En.mine, En.own, dEnum, dZip, len_floor, len_cells, len_pr, tup_cells, tup_floor, lst_floor, lst_cells, imm_pr, imm_floor, imms_prs, inner_cells, in_floor, in_cells, notIn_floor, notIn_cells, ne_cells_nil, eq_cells_nil, ne_floor_nil, eq_floor_nil, eq_floor, ne_floor, eq_cells, ne_cells, eq_pr, ne_pr, lt_pr, sort_cells, sortA_cells, ix_pr0, ix_pr1, tru_floor, tru_cells, isTup_floor, isTup_pr, isLst_cells, isLst_floor, max_pr, dNewT, dNewK, tru_none, tru_bool, tru_int, tru_list, tru_tup, len_list, len_tup, len_dict, PD.add_int, PD.sub_int, int_int, abs_int, le_int, lt_int, gt_int, ge_int, PD.eq_int, PD.ne_int, PD.ne_bool, PD.eq_bool, PD.eq_nil, ix_tup0, ix_tup1, ix_tup2, ix_tup3, ix_list0, ix_list1, tup_list, tup_tup, lst_list, lst_tup, dCallC, notVr, semC,
  Option.bind_some, Option.map_some, Option.bind_none, Option.map_none, List.getElem?_cons_zero, List.getElem?_cons_succ, List.length_cons, List.length_nil, List.map_cons, List.map_nil, List.replicate, List.append_nil, List.nil_append, List.cons_append, List.set_cons_zero, List.set_cons_succ, List.all_cons, List.all_nil, Nat.sub_self, Nat.reduceAdd, Nat.reduceSub, Nat.reduceLT, Nat.reduceEqDiff, List.mem_cons, List.not_mem_nil,  Nat.reduceLeDiff, if_true, if_false, reduceIte, ite_self, Bool.false_eq_true, Bool.not_true, Bool.not_false, decide_true, decide_false, Option.getD_some, Option.getD_none, Bool.true_and, Bool.and_true, Bool.false_and, Bool.and_false, false_and, and_false, true_and, and_true, not_true_eq_false, not_false_eq_true, or_self, or_false, false_or, List.isEmpty_cons, List.isEmpty_nil, Nat.zero_ne_one])
local macro_rules | `(tactic| walk_at "pd*") => `(tactic| simp only [dC, dVar, dBin, dCmp_ap, dCmpT, wB, dChainT, dOfT, dTruT, dAndT, dOrT, dNotT, dAndV, dOrV, dNotV, dIf, dNeg, dNil, dCons, gives, give_vr, give_sh, give_fr, get_sh, get_fr, get_vr, En.at, En.with, Sl.d, dTup, dLst, dCut, dNo, dPart, bCut, dNx, dSeq, dIfS, dRet, dRetN, dBk, dCt, dDrop, dStIx, set_l0, set_l1, gN, gCons, gTup, gNil, dSet, dPar, dUnp, settle, puts, En.put, En.set, dItems, dRg1, dRg2, itemsOf, dB1, semOf, slots, endOf, dCall, gets, light_f, light_t, wOf_f, wOf_t, is_nn, is_bn, is_in, is_sn, is_ln, is_tn, is_bb, isn_nn, isn_bn, isn_in, isn_sn, isn_ln, isn_tn, isn_bb, tyD_list, tyD_dict, eq_self, imm_none, imm_bool, imm_int, imm_str, imm_tup, imm_list, imms_nil, imms_cons, inner_list,
  isi_int, isi_bool, isi_tuple, isi_list, isi_str, isi_dict, isInt, isBool, isTup, isLst, isStr, isDic, En.wipe, wipeS, restoreS, dMut, En.mine, En.own, dEnum, dZip, len_floor, len_cells, len_pr, tup_cells, tup_floor, lst_floor, lst_cells, imm_pr, imm_floor, imms_prs, inner_cells, in_floor, in_cells, notIn_floor, notIn_cells, ne_cells_nil, eq_cells_nil, ne_floor_nil, eq_floor_nil, eq_floor, ne_floor, eq_cells, ne_cells, eq_pr, ne_pr, lt_pr, sort_cells, sortA_cells, ix_pr0, ix_pr1, tru_floor, tru_cells, isTup_floor, isTup_pr, isLst_cells, isLst_floor, max_pr, dNewT, dNewK, tru_none, tru_bool, tru_int, tru_list, tru_tup, len_list, len_tup, len_dict, PD.add_int, PD.sub_int, int_int, abs_int, le_int, lt_int, gt_int, ge_int, PD.eq_int, PD.ne_int, PD.ne_bool, PD.eq_bool, PD.eq_nil, ix_tup0, ix_tup1, ix_tup2, ix_tup3, ix_list0, ix_list1, tup_list, tup_tup, lst_list, lst_tup, dCallC, notVr, semC,
  Option.bind_some, Option.map_some, Option.bind_none, Option.map_none, List.getElem?_cons_zero, List.getElem?_cons_succ, List.length_cons, List.length_nil, List.map_cons, List.map_nil, List.replicate, List.append_nil, List.nil_append, List.cons_append, List.set_cons_zero, List.set_cons_succ, List.all_cons, List.all_nil, Nat.sub_self, Nat.reduceAdd, Nat.reduceSub, Nat.reduceLT, Nat.reduceEqDiff, List.mem_cons, List.not_mem_nil,  Nat.reduceLeDiff, if_true, if_false, reduceIte, ite_self, Bool.false_eq_true, Bool.not_true, Bool.not_false, decide_true, decide_false, Option.getD_some, Option.getD_none, Bool.true_and, Bool.and_true, Bool.false_and, Bool.and_false, false_and, and_false, true_and, and_true, not_true_eq_false, not_false_eq_true, or_self, or_false, false_or, List.isEmpty_cons, List.isEmpty_nil, Nat.zero_ne_one, *])
/-! ### blocks -/
theorem d_blocks_of {l : List P} (hl : l.length ≤ 400) {h w : Int} (h0 : 0 < h) (h1 : h < 10000) (w0 : 0 < w) (w1 : w < 10000) : ∃ hs, GrpOk (homeB h w) l hs ∧
    m_blocks_of [floorD l, .int h, .int w] = some (true, tD (hs.map fun q => (prD q, cellsD ((l.filter fun x => decide (homeB h w x = q)).map (remB h w))))) := by
  obtain ⟨hs, ok, e⟩ := dGrp_at (emb := prD) (f := homeB h w) (val := fun p => prD (remB h w p)) (i := 3) (j := 6) (vs := [4, 5, 6]) (fi := dItems (dVar 0)) (tg := gTup 2 (gCons (gN 4) (gCons (gN 5) gNil)))
    (fe := dTup (dCons (dBin bDiv (dVar 4) (dVar 1)) (dCons (dBin bDiv (dVar 5) (dVar 2)) dNil))) (fk := dVar 6) (fv := dTup (dCons (dBin bSub (dVar 4) (dBin bMul (dBin bIx (dVar 6) (dC (.int 0))) (dVar 1))) (dCons (dBin bSub (dVar 5) (dBin bMul (dBin bIx (dVar 6) (dC (.int 1))) (dVar 2))) dNil)))
    (ρ := ⟨false, [some (.sh (floorD l)), some (.sh (.int h)), some (.sh (.int w)), none, none, none, none]⟩) (ρw := ⟨false, [some (.sh (floorD l)), some (.sh (.int h)), some (.sh (.int w)), none, none, none, none]⟩) (E := ⟨false, [some (.sh (floorD l)), some (.sh (.int h)), some (.sh (.int w)), none, none, none, none]⟩) l rfl (items_floor rfl) (by omega) fun x hx => by
      have q1 : bDiv (.int x.1) (.int h) = some (.sh (.int (x.1 / h))) := PD.div_int ⟨h0, by omega⟩
      have q2 : bDiv (.int x.2) (.int w) = some (.sh (.int (x.2 / w))) := PD.div_int ⟨w0, by omega⟩
      have m1 : bMul (.int (x.1 / h)) (.int h) = some (.sh (.int (x.1 / h * h))) := PD.mul_int (.inr ⟨by omega, by omega⟩)
      have m2 : bMul (.int (x.2 / w)) (.int w) = some (.sh (.int (x.2 / w * w))) := PD.mul_int (.inr ⟨by omega, by omega⟩)
      have k1 : tOf (.tuple [.int (x.1 / h), .int (x.2 / w)]) = some (kP (homeB h w x)) := tOf_pr (homeB h w x)
      show grpTurn _ _ _ _ _ _ (.tuple [.int x.1, .int x.2]) _ = some (_, .tuple [.int (x.1 - x.1 / h * h), .int (x.2 - x.2 / w * w)], _)
      clear hl h0 h1 w0 w1 hx
      unfold grpTurn
      walk_at "pd*"
  have le : ∀ q : P, PyData.list ((l.filter fun x => decide (homeB h w x = q)).map fun p => prD (remB h w p)) = cellsD ((l.filter fun x => decide (homeB h w x = q)).map (remB h w)) := fun q => by unfold cellsD; rw [List.map_map]; rfl
  simp only [le] at e
  refine ⟨hs, ok, ?_⟩
  clear ok hl h0 h1 w0 w1 le
  unfold m_blocks_of b_blocks_of
  walk_at "pd*"
theorem d_need_block {l : List P} (hl : Flo l) {h w : Int} (h0 : 1 ≤ h) (h1 : h ≤ 60) (w0 : 1 ≤ w) (w1 : w ≤ 60) : m_need_block [floorD l, .int h, .int w] = some (false, .none) := by
  have i0 := imm_floor l
  have e := d_need_floor hl
  have e2 := d_fits_whole h 1 60
  rw [decide_eq_true ⟨h0, h1⟩] at e2
  have e3 := d_fits_whole w 1 60
  rw [decide_eq_true ⟨w0, w1⟩] at e3
  unfold m_need_block b_need_block
  clear hl h0 h1 w0 w1
  walk_at "pd*"
def unwD (l : List P) (h w : Int) : D := match unwB l h w with
  | some x => .tuple [floorD x.1, floorD x.2]
  | none => .none
theorem d_unwoven {l : List P} (hl : Flo l) {h w : Int} (h0 : 1 ≤ h) (h1 : h ≤ 60) (w0 : 1 ≤ w) (w1 : w ≤ 60) : m_unwoven [floorD l, .int h, .int w] = some (false, unwD l h w) := by
  obtain ⟨hs, ok, e⟩ := d_blocks_of hl.len (h := h) (w := w) (by omega) (by omega) (by omega) (by omega)
  have e1 := d_need_block hl h0 h1 w0 w1
  have so := sortA_tD (g := fun q => cellsD ((l.filter fun x => decide (homeB h w x = q)).map (remB h w))) hs
  have hk : sortPr hs = homesB l h w := sort_eq ok.nd (ss_sortS _) fun q => by
    rw [homesB, mem_sortS, ok.mem, List.mem_map]
  rw [hk] at so
  have i0 := imm_floor l
  have ix : ∀ q ∈ homesB l h w, bIx (tD (hs.map fun q => (prD q, cellsD ((l.filter fun x => decide (homeB h w x = q)).map (remB h w))))) (prD q) = some (.sh (cellsD ((l.filter fun x => decide (homeB h w x = q)).map (remB h w)))) := fun q hq => by
    rw [← hk, mem_sort] at hq
    exact ix_tD (tLook_map (g := fun q => cellsD ((l.filter fun x => decide (homeB h w x = q)).map (remB h w))) q hq)
  have hlen : (homesB l h w).length ≤ 400 := by
    have := nodup_len (ss_sortS (l.map (homeB h w))).nodup fun q hq => mem_sortS.mp hq
    rw [List.length_map] at this
    exact Nat.le_trans this hl.len
  have hne : homesB l h w ≠ [] := fun z => by
    obtain ⟨p, hp⟩ := List.exists_mem_of_ne_nil l hl.ne
    have : homeB h w p ∈ homesB l h w := mem_sortS.mpr (List.mem_map_of_mem hp)
    rw [z] at this
    cases this
  generalize tD (hs.map fun q => (prD q, cellsD ((l.filter fun x => decide (homeB h w x = q)).map (remB h w)))) = dd at e so ix
  unfold unwD unwB
  cases hH : homesB l h w with
  | nil => exact absurd hH hne
  | cons q0 H =>
    rw [hH] at ix so hlen
    simp only
    have ix0 := ix q0 List.mem_cons_self
    have x0 : bIx (cellsD (q0 :: H)) (.int 0) = some (.sh (prD q0)) := ix_cellsN (i := 0) rfl
    have sk : ∀ q, bSortA (cellsD ((l.filter fun x => decide (homeB h w x = q)).map (remB h w))) = some (.fr (cellsD (blkB l h w q))) := fun q => sortA_cells _
    have lc := dLc_sh (emb := prD) (i := 5) (fi := dItems (dVar 4)) (fe := dCmp cEq (dB1 bSortA (dBin bIx (dVar 3) (dVar 5))) (dB1 bSortA (dBin bIx (dVar 3) (dBin bIx (dVar 4) (dC (.int 0)))))) (fun q => PyData.bool (decide (blkB l h w q = blkB l h w q0)))
      (ρ := ⟨false, [some (.sh (floorD l)), some (.sh (.int h)), some (.sh (.int w)), some (.own dd), some (.sh (cellsD (q0 :: H))), none]⟩) (q0 :: H) (by unfold cellsD; walk_at "pd") rfl (by omega) fun q hq => by
        have ixq := ix q hq
        have skq := sk q
        have sk0 := sk q0
        generalize cellsD ((l.filter fun x => decide (homeB h w x = q)).map (remB h w)) = c1 at ixq skq
        generalize cellsD ((l.filter fun x => decide (homeB h w x = q0)).map (remB h w)) = c0 at ix0 sk0
        clear ix sk hl h0 h1 w0 w1 ok e e1 so hk hlen hne hq hH
        walk_at "pd*"
    have lc' : dLc (dItems (dVar 4)) (gN 5) dYes (dCmp cEq (dB1 bSortA (dBin bIx (dVar 3) (dVar 5))) (dB1 bSortA (dBin bIx (dVar 3) (dBin bIx (dVar 4) (dC (.int 0)))))) [5] ⟨false, [some (.sh (floorD l)), some (.sh (.int h)), some (.sh (.int w)), some (.own dd), some (.own (cellsD (q0 :: H))), none]⟩ =
        some (.fr (.list ((q0 :: H).map fun q => PyData.bool (decide (blkB l h w q = blkB l h w q0)))), ⟨false, [some (.sh (floorD l)), some (.sh (.int h)), some (.sh (.int w)), some (.own dd), some (.sh (cellsD (q0 :: H))), none]⟩) := by
      have wk : dItems (dVar 4) ⟨false, [some (.sh (floorD l)), some (.sh (.int h)), some (.sh (.int w)), some (.own dd), some (.own (cellsD (q0 :: H))), none]⟩ = some ((q0 :: H).map prD, ⟨false, [some (.sh (floorD l)), some (.sh (.int h)), some (.sh (.int w)), some (.own dd), some (.sh (cellsD (q0 :: H))), none]⟩) := rfl
      have wk2 : dItems (dVar 4) ⟨false, [some (.sh (floorD l)), some (.sh (.int h)), some (.sh (.int w)), some (.own dd), some (.sh (cellsD (q0 :: H))), none]⟩ = some ((q0 :: H).map prD, ⟨false, [some (.sh (floorD l)), some (.sh (.int h)), some (.sh (.int w)), some (.own dd), some (.sh (cellsD (q0 :: H))), none]⟩) := rfl
      rw [dLc_from wk, ← dLc_from wk2]
      exact lc
    have ba := bAll_bools ((q0 :: H).map fun q => decide (blkB l h w q = blkB l h w q0))
    have eb : ((q0 :: H).map fun q => decide (blkB l h w q = blkB l h w q0)).map PyData.bool = (q0 :: H).map fun q => PyData.bool (decide (blkB l h w q = blkB l h w q0)) := by rw [List.map_map]; rfl
    rw [eb] at ba
    have ea : ((q0 :: H).map fun q => decide (blkB l h w q = blkB l h w q0)).all id = (q0 :: H).all fun q => decide (blkB l h w q = blkB l h w q0) := by rw [List.all_map]; rfl
    rw [ea] at ba
    have sk0 := sk q0
    generalize PyData.list ((q0 :: H).map fun q => PyData.bool (decide (blkB l h w q = blkB l h w q0))) = bl at ba lc'
    generalize cellsD ((l.filter fun x => decide (homeB h w x = q0)).map (remB h w)) = c0 at ix0 sk0
    generalize ((q0 :: H).all fun q => decide (blkB l h w q = blkB l h w q0)) = bb at ba ⊢
    generalize blkB l h w q0 = B0 at sk0 ⊢
    clear ix sk hl h0 h1 w0 w1 ok hk hlen hne hH lc eb ea
    unfold m_unwoven b_unwoven
    by_cases hi : inner dd = true
    · cases bb
      · walk_at "pd*"
      · walk_at "pd*"
    · have hi : inner dd = false := by simpa using hi
      cases bb
      · walk_at "pd*"
      · walk_at "pd*"
end PD.K81
set_option Elab.async false
set_option linter.all false
set_option maxRecDepth 100000
set_option maxHeartbeats 4000000
namespace PD.K81
set_option autoImplicit false
open PySem PySem.Spec L2 PD
open PyProof.Rows hiding St
local macro_rules | `(tactic| walk_at "pd") => `(tactic| simp only [dC, dVar, dBin, dCmp_ap, dCmpT, wB, dChainT, dOfT, dTruT, dAndT, dOrT, dNotT, dAndV, dOrV, dNotV, dIf, dNeg, dNil, dCons, gives, give_vr, give_sh, give_fr, get_sh, get_fr, get_vr, En.at, En.with, Sl.d, dTup, dLst, dCut, dNo, dPart, bCut, dNx, dSeq, dIfS, dRet, dRetN, dBk, dCt, dDrop, dStIx, set_l0, set_l1, gN, gCons, gTup, gNil, dSet, dPar, dUnp, settle, puts, En.put, En.set, dItems, dRg1, dRg2, itemsOf, dB1, semOf, slots, endOf, dCall, gets, light_f, light_t, wOf_f, wOf_t, is_nn, is_bn, is_in, is_sn, is_ln, is_tn, is_bb, isn_nn, isn_bn, isn_in, isn_sn, isn_ln, isn_tn, isn_bb, tyD_list, tyD_dict, eq_self, imm_none, imm_bool, imm_int, imm_str, imm_tup, imm_list, imms_nil, imms_cons, inner_list,
  isi_int, isi_bool, isi_tuple, isi_list, isi_str, isi_dict, isInt, isBool, isTup, isLst, isStr, isDic, En.wipe, wipeS, restoreS, dMut, En.mine, En.own, dEnum, dZip, len_floor, len_cells, len_pr, tup_cells, tup_floor, lst_floor, lst_cells, imm_pr, imm_floor, imms_prs, inner_cells, in_floor, in_cells, notIn_floor, notIn_cells, ne_cells_nil, eq_cells_nil, ne_floor_nil, eq_floor_nil, eq_floor, ne_floor, eq_cells, ne_cells, eq_pr, ne_pr, lt_pr, sort_cells, sortA_cells, ix_pr0, ix_pr1, tru_floor, tru_cells, isTup_floor, isTup_pr, isLst_cells, isLst_floor, max_pr, dNewT, dNewK, tru_none, tru_bool, tru_int, tru_list, tru_tup, len_list, len_tup, len_dict, PD.add_int, PD.sub_int, int_int, abs_int, le_int, lt_int, gt_int, ge_int, PD.eq_int, PD.ne_int, PD.ne_bool, PD.eq_bool, PD.eq_nil, ix_tup0, ix_tup1, ix_tup2, ix_tup3, ix_list0, ix_list1, tup_list, tup_tup, lst_list, lst_tup, dCallC, notVr, semC,
  Option.bind_some, Option.map_some, Option.bind_none, Option.map_none, List.getElem?_cons_zero, List.getElem?_cons_succ, List.length_cons, List.length_nil, List.map_cons, List.map_nil, List.replicate, List.append_nil, List.nil_append, List.cons_append, List.set_cons_zero, List.set_cons_succ, List.all_cons, List.all_nil, Nat.sub_self, Nat.reduceAdd, Nat.reduceSub, Nat.reduceLT, Nat.reduceEqDiff, List.mem_cons, List.not_mem_nil,  Nat.reduceLeDiff, if_true, if_false, reduceIte, ite_self, Bool.false_eq_true, Bool.not_true, Bool.not_false, decide_true, decide_false, Option.getD_some, Option.getD_none, Bool.true_and, Bool.and_true, Bool.false_and, Bool.and_false, false_and, and_false, true_and, and_true, not_true_eq_false, not_false_eq_true, or_self, or_false, false_or, List.isEmpty_cons, List.isEmpty_nil, Nat.zero_ne_one])
local macro_rules | `(tactic| walk_at "pd*") => `(tactic| simp only [dC, dVar, dBin, dCmp_ap, dCmpT, wB, dChainT, dOfT, dTruT, dAndT, dOrT, dNotT, dAndV, dOrV, dNotV, dIf, dNeg, dNil, dCons, gives, give_vr, give_sh, give_fr, get_sh, get_fr, get_vr, En.at, En.with, Sl.d, dTup, dLst, dCut, dNo, dPart, bCut, dNx, dSeq, dIfS, dRet, dRetN, dBk, dCt, dDrop, dStIx, set_l0, set_l1, gN, gCons, gTup, gNil, dSet, dPar, dUnp, settle, puts, En.put, En.set, dItems, dRg1, dRg2, itemsOf, dB1, semOf, slots, endOf, dCall, gets, light_f, light_t, wOf_f, wOf_t, is_nn, is_bn, is_in, is_sn, is_ln, is_tn, is_bb, isn_nn, isn_bn, isn_in, isn_sn, isn_ln, isn_tn, isn_bb, tyD_list, tyD_dict, eq_self, imm_none, imm_bool, imm_int, imm_str, imm_tup, imm_list, imms_nil, imms_cons, inner_list,
  isi_int, isi_bool, isi_tuple, isi_list, isi_str, isi_dict, isInt, isBool, isTup, isLst, isStr, isDic, En.wipe, wipeS, restoreS, dMut, En.mine, En.own, dEnum, dZip, len_floor, len_cells, len_pr, tup_cells, tup_floor, lst_floor, lst_cells, imm_pr, imm_floor, imms_prs, inner_cells, in_floor, in_cells, notIn_floor, notIn_cells, ne_cells_nil, eq_cells_nil, ne_floor_nil, eq_floor_nil, eq_floor, ne_floor, eq_cells, ne_cells, eq_pr, ne_pr, lt_pr, sort_cells, sortA_cells, ix_pr0, ix_pr1, tru_floor, tru_cells, isTup_floor, isTup_pr, isLst_cells, isLst_floor, max_pr, dNewT, dNewK, tru_none, tru_bool, tru_int, tru_list, tru_tup, len_list, len_tup, len_dict, PD.add_int, PD.sub_int, int_int, abs_int, le_int, lt_int, gt_int, ge_int, PD.eq_int, PD.ne_int, PD.ne_bool, PD.eq_bool, PD.eq_nil, ix_tup0, ix_tup1, ix_tup2, ix_tup3, ix_list0, ix_list1, tup_list, tup_tup, lst_list, lst_tup, dCallC, notVr, semC,
  Option.bind_some, Option.map_some, Option.bind_none, Option.map_none, List.getElem?_cons_zero, List.getElem?_cons_succ, List.length_cons, List.length_nil, List.map_cons, List.map_nil, List.replicate, List.append_nil, List.nil_append, List.cons_append, List.set_cons_zero, List.set_cons_succ, List.all_cons, List.all_nil, Nat.sub_self, Nat.reduceAdd, Nat.reduceSub, Nat.reduceLT, Nat.reduceEqDiff, List.mem_cons, List.not_mem_nil,  Nat.reduceLeDiff, if_true, if_false, reduceIte, ite_self, Bool.false_eq_true, Bool.not_true, Bool.not_false, decide_true, decide_false, Option.getD_some, Option.getD_none, Bool.true_and, Bool.and_true, Bool.false_and, Bool.and_false, false_and, and_false, true_and, and_true, not_true_eq_false, not_false_eq_true, or_self, or_false, false_or, List.isEmpty_cons, List.isEmpty_nil, Nat.zero_ne_one, *])
/-! ### boxes -/
theorem d_law_box {h w : Nat} (hh : h ≤ 100) (hw : w ≤ 100) : m__law_box [.int (h : Int), .int (w : Int)] = some (false, floorD (box h w)) := by
  let E : Nat → En := fun i => ⟨false, [some (.sh (.int (h : Int))), some (.sh (.int (w : Int))), some (.own (cellsD (box i w))), none, none]⟩
  have lp : dFor (dRg1 (dVar 0)) (gN 3) l1__law_box [3, 4] (E 0) = some (.nx (E h)) := by
    refine dFor_at (n := h) E (rgD 0 h) (rg1_var (n := h) rfl (by omega)) (rgD_len _ _) fun i d hd => ?_
    obtain ⟨hi, rfl⟩ := rgD_at hd
    rw [Int.zero_add]
    have lc := dLc_sh (emb := fun (c : Nat) => PyData.int (c : Int)) (i := 4) (fi := dRg1 (dVar 1)) (fe := dTup (dCons (dVar 3) (dCons (dVar 4) dNil))) (fun (c : Nat) => prD ((i : Int), (c : Int))) (ρ := ⟨false, [some (.sh (.int (h : Int))), some (.sh (.int (w : Int))), some (.own (cellsD (box i w))), some (.sh (.int (i : Int))), none]⟩) (List.range w)
      (rg_nat (dVar_sh rfl) (by omega)) rfl (by rw [List.length_range]; omega) fun c hc => by
        rw [prD_mk]
        clear hc hd hi hh hw
        walk_at "pd"
    have le : PyData.list ((List.range w).map fun (c : Nat) => prD ((i : Int), (c : Int))) = cellsD ((List.range w).map fun (c : Nat) => ((i : Int), (c : Int))) := by unfold cellsD; rw [List.map_map]; rfl
    rw [le] at lc
    have ad := add_cells (l := box i w) (m := (List.range w).map fun (c : Nat) => ((i : Int), (c : Int))) (by
      rw [len_box, List.length_map, List.length_range]
      have := Nat.mul_le_mul (Nat.le_of_lt hi) hw
      omega)
    rw [← box_succ] at ad
    generalize (List.range w).map (fun (c : Nat) => ((i : Int), (c : Int))) = R at lc ad
    clear hd hi le hh hw
    simp only [E]
    unfold turnOf l1__law_box
    walk_at "pd*"
  simp only [E] at lp
  have e0 : cellsD (box 0 w) = .list [] := rfl
  rw [e0] at lp
  clear E hh hw e0
  unfold m__law_box b__law_box
  walk_at "pd*"
/-! ### taken greater -/
theorem d_full_block {t : Nat} (ht : t ≤ 60) : m_full_block [.int (t : Int)] = some (true, cellsD (box t t)) := by
  have fi : dRg1 (dVar 0) ⟨false, [some (.sh (.int (t : Int))), none, none]⟩ = some ((List.range t).map (fun (i : Nat) => PyData.int (i : Int)), ⟨false, [some (.sh (.int (t : Int))), none, none]⟩) := rg_nat (dVar_sh rfl) (by omega)
  have e : ((List.range t).filter fun _ => true).flatMap (fun (r : Nat) => ((List.range t).filter fun _ => true).map fun (c : Nat) => prD ((r : Int), (c : Int))) = (box t t).map prD := by
    rw [filter_true]
    unfold box
    rw [List.map_flatMap]
    simp only [List.map_map]
    rfl
  have lc := dLc2_map (emb := fun (i : Nat) => PyData.int (i : Int)) (emb1 := fun (i : Nat) => PyData.int (i : Int)) (tg := gN 1) (tg1 := gN 2) (ft := dYes) (ft1 := dYes) (fi1 := dRg1 (dVar 0)) (fe := dTup (dCons (dVar 1) (dCons (dVar 2) dNil))) (vs := [1, 2]) (vs1 := [2])
    (E := ⟨false, [some (.sh (.int (t : Int))), none, none]⟩) (ρe := ⟨false, [some (.sh (.int (t : Int))), none, none]⟩) (fun (_ : Nat) => true) (fun _ => List.range t) (fun _ (_ : Nat) => true) (fun (r c : Nat) => prD ((r : Int), (c : Int))) (List.range t) fi rfl (by
      rw [e, List.length_map, len_box]
      have := Nat.mul_le_mul ht ht
      omega) (fun r hr => ⟨⟨false, [some (.sh (.int (t : Int))), some (.sh (.int (r : Int))), none]⟩, _, rfl, rfl, (fun z => nomatch z), fun _ => ⟨_, ⟨false, [some (.sh (.int (t : Int))), some (.sh (.int (r : Int))), none]⟩, rg_nat (dVar_sh rfl) (by omega), rfl, rfl, fun c hc =>
        ⟨⟨false, [some (.sh (.int (t : Int))), some (.sh (.int (r : Int))), some (.sh (.int (c : Int)))]⟩, _, rfl, rfl, fun _ => ⟨_, _, _, by walk_at "pd"; rfl, rfl, rfl⟩, (fun z => nomatch z)⟩⟩⟩) rfl
  rw [e] at lc
  have le : PyData.list ((box t t).map prD) = cellsD (box t t) := rfl
  rw [le] at lc
  unfold m_full_block b_full_block
  clear fi e le ht
  walk_at "pd*"
theorem d_woven_in {l pat : List P} {a b : Int} {dl dp : D} (hl : l.length ≤ 400) (hp : pat.length ≤ 3600) (h0 : -10000 < a ∧ a < 10000) (h1 : -10000 < b ∧ b < 10000) (il : ∀ ρ : En, ρ.sl[0]? = some (some (.sh dl)) → dItems (dVar 0) ρ = some (l.map prD, ρ)) (ip : ∀ ρ : En, ρ.sl[1]? = some (some (.sh dp)) → dItems (dVar 1) ρ = some (pat.map prD, ρ)) :
    m_woven_in [dl, dp, .int a, .int b] = some (true, cellsD (Wv l a b pat)) := by
  let E : Nat → En := fun i => ⟨false, [some (.sh dl), some (.sh dp), some (.sh (.int a)), some (.sh (.int b)), some (.own (cellsD (wov (l.take i) pat a b))), none, none, none, none]⟩
  have lp : dFor (dItems (dVar 0)) (gTup 2 (gCons (gN 5) (gCons (gN 6) gNil))) l1_woven_in [5, 6, 7, 8] (E 0) = some (.nx (E l.length)) := by
    refine dFor_at (n := l.length) E (l.map prD) (il _ rfl) (by rw [List.length_map]) fun i d hd => ?_
    obtain ⟨p, hp', rfl⟩ := map_at hd
    have hi := (List.getElem?_eq_some_iff.mp hp').1
    have lc := dLc_prs (i := 7) (j := 8) (fi := dItems (dVar 1)) (fe := dTup (dCons (dBin bAdd (dBin bMul (dVar 5) (dVar 2)) (dVar 7)) (dCons (dBin bAdd (dBin bMul (dVar 6) (dVar 3)) (dVar 8)) dNil))) (fun q => prD (putB a b p q))
      (ρ := ⟨false, [some (.sh dl), some (.sh dp), some (.sh (.int a)), some (.sh (.int b)), some (.own (cellsD (wov (l.take i) pat a b))), some (.sh (.int p.1)), some (.sh (.int p.2)), none, none]⟩) pat (ip _ rfl) rfl (by omega) fun q hq => by
        have m1 : bMul (.int p.1) (.int a) = some (.sh (.int (p.1 * a))) := PD.mul_int (.inr ⟨by omega, by omega⟩)
        have m2 : bMul (.int p.2) (.int b) = some (.sh (.int (p.2 * b))) := PD.mul_int (.inr ⟨by omega, by omega⟩)
        unfold putB
        rw [prD_mk]
        clear hq hi hp' hd hl hp h0 h1 ip il
        walk_at "pd*"
    have le : PyData.list (pat.map fun q => prD (putB a b p q)) = cellsD (pat.map fun q => putB a b p q) := by unfold cellsD; rw [List.map_map]; rfl
    rw [le] at lc
    have st : wov (l.take (i + 1)) pat a b = wov (l.take i) pat a b ++ pat.map fun q => putB a b p q := flat_take hp'
    have hlen : (wov (l.take i) pat a b).length + (pat.map fun q => putB a b p q).length ≤ 16777216 := by
      have h2 : (l.take i).length ≤ 400 := by rw [List.length_take]; omega
      have h3 : (l.take i).length * pat.length ≤ 400 * 3600 := Nat.mul_le_mul h2 hp
      rw [List.length_map, len_wov]
      omega
    have au := dAugL_at (i := 4) (xs := (wov (l.take i) pat a b).map prD) (ys := (pat.map fun q => putB a b p q).map prD) lc (by rw [List.length_map, List.length_map]; exact hlen)
    show turnOf _ _ _ (.tuple [.int p.1, .int p.2]) _ = _
    have l1 : l1_woven_in ⟨false, [some (.sh dl), some (.sh dp), some (.sh (.int a)), some (.sh (.int b)), some (.own (cellsD (wov (l.take i) pat a b))), some (.sh (.int p.1)), some (.sh (.int p.2)), none, none]⟩ =
        some (.nx ⟨false, [some (.sh dl), some (.sh dp), some (.sh (.int a)), some (.sh (.int b)), some (.own (cellsD (wov (l.take (i + 1)) pat a b))), some (.sh (.int p.1)), some (.sh (.int p.2)), none, none]⟩) := by
      rw [st]
      unfold l1_woven_in
      rw [au]
      unfold cellsD
      rw [List.map_append]
      rfl
    simp only [E]
    clear hd hi le hl hp h0 h1 ip il lc st hlen au hp'
    unfold turnOf
    walk_at "pd*"
  simp only [E, List.take_length] at lp
  have e0 : cellsD (wov (l.take 0) pat a b) = .list [] := rfl
  rw [e0] at lp
  have sc : bSortA (cellsD (wov l pat a b)) = some (.fr (cellsD (Wv l a b pat))) := sortA_cells _
  clear E e0 hl hp h0 h1 ip il
  unfold m_woven_in b_woven_in
  walk_at "pd*"
theorem it_floor {i : Nat} {l : List P} : ∀ ρ : En, ρ.sl[i]? = some (some (.sh (floorD l))) → dItems (dVar i) ρ = some (l.map prD, ρ) := fun ρ h => items_floor h
theorem it_cells {i : Nat} {l : List P} : ∀ ρ : En, ρ.sl[i]? = some (some (.sh (cellsD l))) → dItems (dVar i) ρ = some (l.map prD, ρ) := fun ρ h => by unfold dItems; rw [dVar_sh h]; rfl
theorem imax_mem : ∀ (ns : List Int) (n : Int), imax n ns ∈ n :: ns
  | [], n => List.mem_cons_self
  | m :: ns, n => by
    have : imax n (m :: ns) = imax (if n < m then m else n) ns := rfl
    rw [this]
    have ih := imax_mem ns (if n < m then m else n)
    rcases List.mem_cons.mp ih with e | e
    · rw [e]
      split
      · exact List.mem_cons_of_mem _ List.mem_cons_self
      · exact List.mem_cons_self
    · exact List.mem_cons_of_mem _ (List.mem_cons_of_mem _ e)
theorem max_of {xs : List Int} (h : xs ≠ []) : ∃ m, m ∈ xs ∧ bMaxA (.list (xs.map .int)) = some (.sh (.int m)) := by
  cases xs with
  | nil => exact absurd rfl h
  | cons n ns =>
    refine ⟨imax n ns, imax_mem ns n, ?_⟩
    show bMax (.list ((n :: ns).map .int)) = _
    simp only [bMax, ints?_map]
    rfl
theorem d_need_fit {L : List P} (h0 : L ≠ []) (hl : L.length ≤ 400) (h : ∀ p ∈ L, p.1 ≤ 59 ∧ p.2 ≤ 59) : m_need_fit [cellsD L] = some (false, .none) := by
  have lc := dLc_sh (emb := prD) (i := 1) (fi := dItems (dVar 0)) (fe := dB1 bMaxA (dVar 1)) (fun p => PyData.int (max p.1 p.2)) (ρ := ⟨false, [some (.sh (cellsD L)), none]⟩) L (by unfold cellsD; walk_at "pd") rfl (by omega) fun p hp => by
    clear hp h hl h0
    walk_at "pd"
  have e : L.map (fun p => PyData.int (max p.1 p.2)) = (L.map fun p => max p.1 p.2).map .int := by rw [List.map_map]; rfl
  rw [e] at lc
  obtain ⟨m, hm, em⟩ := max_of (xs := L.map fun p => max p.1 p.2) (by simpa using h0)
  have hm2 : m ≤ 59 := by
    obtain ⟨p, hp, rfl⟩ := List.mem_map.mp hm
    have := h p hp
    omega
  have d1 : decide ((400 : Int) < (L.length : Int)) = false := decide_eq_false (by omega)
  have d2 : decide ((60 - 1 : Int) < m) = false := decide_eq_false (by omega)
  clear h0 hl h e hm hm2
  generalize (L.map fun p => max p.1 p.2).map PyData.int = M at lc em
  unfold m_need_fit b_need_fit
  walk_at "pd*"
/-- a pattern of blocks -/
structure Pat (p : List P) (h w : Int) : Prop where
  fl : Flo p
  inb : ∀ q ∈ p, InB h w q
theorem bMaxs {xs : List Int} (h : xs ≠ []) {b : Int} (hb : ∀ x ∈ xs, x < b) : ∃ m, bMaxA (.list (xs.map .int)) = some (.sh (.int m)) ∧ decide (b ≤ m) = false := by
  obtain ⟨m, hm, e⟩ := max_of h
  exact ⟨m, e, decide_eq_false (by have := hb m hm; omega)⟩
theorem d_need_pattern {l p : List P} (hl : Flo l) {h w : Int} (h0 : 1 ≤ h) (h1 : h ≤ 60) (w0 : 1 ≤ w) (w1 : w ≤ 60) (hp : Pat p h w) : m_need_pattern [floorD l, .int h, .int w, floorD p] = some (false, .none) := by
  have e1 := d_need_block hl h0 h1 w0 w1
  have e2 := d_fits_floor hp.fl
  have pl := hp.fl.len
  obtain ⟨m1, b1, c1⟩ := bMaxs (xs := p.map fun q => q.1) (by simpa using hp.fl.ne) (b := h) fun x hx => by
    obtain ⟨q, hq, rfl⟩ := List.mem_map.mp hx
    exact (hp.inb q hq).1.2
  obtain ⟨m2, b2, c2⟩ := bMaxs (xs := p.map fun q => q.2) (by simpa using hp.fl.ne) (b := w) fun x hx => by
    obtain ⟨q, hq, rfl⟩ := List.mem_map.mp hx
    exact (hp.inb q hq).2.2
  rw [List.map_map] at b1 b2
  have l1 := dLc_prs (i := 4) (j := 5) (fi := dItems (dVar 3)) (fe := dVar 4) (fun q => PyData.int q.1) (ρ := ⟨false, [some (.sh (floorD l)), some (.sh (.int h)), some (.sh (.int w)), some (.sh (floorD p)), none, none]⟩) p (items_floor rfl) rfl (by omega) fun q hq => rfl
  have l2 := dLc_prs (i := 4) (j := 5) (fi := dItems (dVar 3)) (fe := dVar 5) (fun q => PyData.int q.2) (ρ := ⟨false, [some (.sh (floorD l)), some (.sh (.int h)), some (.sh (.int w)), some (.sh (floorD p)), none, none]⟩) p (items_floor rfl) rfl (by omega) fun q hq => rfl
  have f1 : (p.map (PyData.int ∘ fun q => q.1)) = p.map fun q => PyData.int q.1 := rfl
  have f2 : (p.map (PyData.int ∘ fun q => q.2)) = p.map fun q => PyData.int q.2 := rfl
  rw [f1] at b1
  rw [f2] at b2
  generalize PyData.list (p.map fun q => PyData.int q.1) = L1 at l1 b1
  generalize PyData.list (p.map fun q => PyData.int q.2) = L2 at l2 b2
  have i0 := imm_floor l
  have i1 := imm_floor p
  clear hl h0 h1 w0 w1 hp pl f1 f2
  unfold m_need_pattern b_need_pattern
  walk_at "pd*"
theorem d_woven {l p : List P} (hl : Flo l) {h w : Int} (h0 : 1 ≤ h) (h1 : h ≤ 60) (w0 : 1 ≤ w) (w1 : w ≤ 60) (hp : Pat p h w) (hn : l.length * p.length ≤ 400) (hW : Flo (Wv l h w p)) : m_woven [floorD l, .int h, .int w, floorD p] = some (false, floorD (Wv l h w p)) := by
  have e1 := d_need_pattern hl h0 h1 w0 w1 hp
  have e2 := d_woven_in (l := l) (pat := p) (a := h) (b := w) hl.len (Nat.le_trans hp.fl.len (by decide)) ⟨by omega, by omega⟩ ⟨by omega, by omega⟩ it_floor it_floor
  have e3 := d_need_fit hW.ne hW.len fun q hq => by have := hW.rng q hq; omega
  have hl2 := hl.len
  have m1 : bMul (.int (l.length : Int)) (.int (p.length : Int)) = some (.sh (.int ((l.length * p.length : Nat) : Int))) := by rw [PD.mul_int (.inl ⟨by omega, by omega⟩), Int.natCast_mul]
  have d1 : decide ((400 : Int) < ((l.length * p.length : Nat) : Int)) = false := decide_eq_false (by omega)
  have i0 := imm_floor l
  have i1 := imm_floor p
  have i2 := inner_cells (Wv l h w p)
  generalize Wv l h w p = W at e2 e3 i2 ⊢
  clear hl h0 h1 w0 w1 hp hn hl2 hW
  unfold m_woven b_woven
  walk_at "pd*"
theorem d_need_scale {l : List P} (h : Flo l) {t : Int} (h0 : 1 ≤ t) (h1 : t ≤ 60) : m_need_scale [floorD l, .int t] = some (false, .none) := by
  have i0 := imm_floor l
  have e := d_need_floor h
  have e2 := d_fits_whole t 1 60
  rw [decide_eq_true ⟨h0, h1⟩] at e2
  unfold m_need_scale b_need_scale
  clear h h0 h1
  walk_at "pd*"
theorem box_in {t : Nat} : ∀ q ∈ box t t, InB (t : Int) (t : Int) q := fun q hq => mem_box.mp hq
theorem d_enlarged {l : List P} (h : Flo l) {t : Nat} (h0 : 1 ≤ t) (h1 : t ≤ 60) (hs : l.length * (t * t) ≤ 400) (hW : Flo (Wv l t t (box t t))) : m_enlarged [floorD l, .int (t : Int)] = some (false, floorD (Wv l t t (box t t))) := by
  have e1 := d_need_scale h (t := (t : Int)) (by omega) (by omega)
  have e2 := d_full_block h1
  have e3 := d_woven_in (l := l) (pat := box t t) (a := t) (b := t) (dl := floorD l) (dp := cellsD (box t t)) h.len (by rw [len_box]; exact Nat.mul_le_mul h1 h1) ⟨by omega, by omega⟩ ⟨by omega, by omega⟩ it_floor it_cells
  have e4 := d_need_fit hW.ne hW.len fun q hq => by have := hW.rng q hq; omega
  have m1 : bMul (.int (l.length : Int)) (.int (t : Int)) = some (.sh (.int ((l.length : Int) * t))) := PD.mul_int (.inr ⟨by omega, by omega⟩)
  have m2 : bMul (.int ((l.length : Int) * t)) (.int (t : Int)) = some (.sh (.int ((l.length : Int) * t * t))) := PD.mul_int (.inr ⟨by omega, by omega⟩)
  have d1 : decide ((400 : Int) < (l.length : Int) * t * t) = false := decide_eq_false (by
    have : ((l.length * (t * t) : Nat) : Int) = (l.length : Int) * t * t := by rw [Int.natCast_mul, Int.natCast_mul, Int.mul_assoc]
    omega)
  have i0 := imm_floor l
  have i1 := inner_cells (Wv l t t (box t t))
  have i2 := inner_cells (box t t)
  generalize Wv l t t (box t t) = W at e3 e4 i1 ⊢
  clear h h0 h1 hs hW
  unfold m_enlarged b_enlarged
  walk_at "pd*"
end PD.K81
set_option Elab.async false
set_option linter.all false
set_option maxRecDepth 100000
set_option maxHeartbeats 4000000
namespace PD.K81
set_option autoImplicit false
open PySem PySem.Spec L2 PD
open PyProof.Rows hiding St
local macro_rules | `(tactic| walk_at "pd") => `(tactic| simp only [dC, dVar, dBin, dCmp_ap, dCmpT, wB, dChainT, dOfT, dTruT, dAndT, dOrT, dNotT, dAndV, dOrV, dNotV, dIf, dNeg, dNil, dCons, gives, give_vr, give_sh, give_fr, get_sh, get_fr, get_vr, En.at, En.with, Sl.d, dTup, dLst, dCut, dNo, dPart, bCut, dNx, dSeq, dIfS, dRet, dRetN, dBk, dCt, dDrop, dStIx, set_l0, set_l1, gN, gCons, gTup, gNil, dSet, dPar, dUnp, settle, puts, En.put, En.set, dItems, dRg1, dRg2, itemsOf, dB1, semOf, slots, endOf, dCall, gets, light_f, light_t, wOf_f, wOf_t, is_nn, is_bn, is_in, is_sn, is_ln, is_tn, is_bb, isn_nn, isn_bn, isn_in, isn_sn, isn_ln, isn_tn, isn_bb, tyD_list, tyD_dict, eq_self, imm_none, imm_bool, imm_int, imm_str, imm_tup, imm_list, imms_nil, imms_cons, inner_list,
  isi_int, isi_bool, isi_tuple, isi_list, isi_str, isi_dict, isInt, isBool, isTup, isLst, isStr, isDic, En.wipe, wipeS, restoreS, dMut, En.mine, En.own, dEnum, dZip, len_floor, len_cells, len_pr, tup_cells, tup_floor, lst_floor, lst_cells, imm_pr, imm_floor, imms_prs, inner_cells, in_floor, in_cells, notIn_floor, notIn_cells, ne_cells_nil, eq_cells_nil, ne_floor_nil, eq_floor_nil, eq_floor, ne_floor, eq_cells, ne_cells, eq_pr, ne_pr, lt_pr, sort_cells, sortA_cells, tyM_list, tyM_cells, dash_list, dash_dict, ix_pr0, ix_pr1, tru_floor, tru_cells, isTup_floor, isTup_pr, isLst_cells, isLst_floor, max_pr, dNewT, dNewK, tru_none, tru_bool, tru_int, tru_list, tru_tup, len_list, len_tup, len_dict, PD.add_int, PD.sub_int, int_int, abs_int, le_int, lt_int, gt_int, ge_int, PD.eq_int, PD.ne_int, PD.ne_bool, PD.eq_bool, PD.eq_nil, ix_tup0, ix_tup1, ix_tup2, ix_tup3, ix_list0, ix_list1, tup_list, tup_tup, lst_list, lst_tup, dCallC, notVr, semC,
  Option.bind_some, Option.map_some, Option.bind_none, Option.map_none, List.getElem?_cons_zero, List.getElem?_cons_succ, List.length_cons, List.length_nil, List.map_cons, List.map_nil, List.replicate, List.append_nil, List.nil_append, List.cons_append, List.set_cons_zero, List.set_cons_succ, List.all_cons, List.all_nil, Nat.sub_self, Nat.reduceAdd, Nat.reduceSub, Nat.reduceLT, Nat.reduceEqDiff, List.mem_cons, List.not_mem_nil,  Nat.reduceLeDiff, if_true, if_false, reduceIte, ite_self, Bool.false_eq_true, Bool.not_true, Bool.not_false, decide_true, decide_false, Option.getD_some, Option.getD_none, Bool.true_and, Bool.and_true, Bool.false_and, Bool.and_false, false_and, and_false, true_and, and_true, not_true_eq_false, not_false_eq_true, or_self, or_false, false_or, List.isEmpty_cons, List.isEmpty_nil, Nat.zero_ne_one])
local macro_rules | `(tactic| walk_at "pd*") => `(tactic| simp only [dC, dVar, dBin, dCmp_ap, dCmpT, wB, dChainT, dOfT, dTruT, dAndT, dOrT, dNotT, dAndV, dOrV, dNotV, dIf, dNeg, dNil, dCons, gives, give_vr, give_sh, give_fr, get_sh, get_fr, get_vr, En.at, En.with, Sl.d, dTup, dLst, dCut, dNo, dPart, bCut, dNx, dSeq, dIfS, dRet, dRetN, dBk, dCt, dDrop, dStIx, set_l0, set_l1, gN, gCons, gTup, gNil, dSet, dPar, dUnp, settle, puts, En.put, En.set, dItems, dRg1, dRg2, itemsOf, dB1, semOf, slots, endOf, dCall, gets, light_f, light_t, wOf_f, wOf_t, is_nn, is_bn, is_in, is_sn, is_ln, is_tn, is_bb, isn_nn, isn_bn, isn_in, isn_sn, isn_ln, isn_tn, isn_bb, tyD_list, tyD_dict, eq_self, imm_none, imm_bool, imm_int, imm_str, imm_tup, imm_list, imms_nil, imms_cons, inner_list,
  isi_int, isi_bool, isi_tuple, isi_list, isi_str, isi_dict, isInt, isBool, isTup, isLst, isStr, isDic, En.wipe, wipeS, restoreS, dMut, En.mine, En.own, dEnum, dZip, len_floor, len_cells, len_pr, tup_cells, tup_floor, lst_floor, lst_cells, imm_pr, imm_floor, imms_prs, inner_cells, in_floor, in_cells, notIn_floor, notIn_cells, ne_cells_nil, eq_cells_nil, ne_floor_nil, eq_floor_nil, eq_floor, ne_floor, eq_cells, ne_cells, eq_pr, ne_pr, lt_pr, sort_cells, sortA_cells, tyM_list, tyM_cells, dash_list, dash_dict, ix_pr0, ix_pr1, tru_floor, tru_cells, isTup_floor, isTup_pr, isLst_cells, isLst_floor, max_pr, dNewT, dNewK, tru_none, tru_bool, tru_int, tru_list, tru_tup, len_list, len_tup, len_dict, PD.add_int, PD.sub_int, int_int, abs_int, le_int, lt_int, gt_int, ge_int, PD.eq_int, PD.ne_int, PD.ne_bool, PD.eq_bool, PD.eq_nil, ix_tup0, ix_tup1, ix_tup2, ix_tup3, ix_list0, ix_list1, tup_list, tup_tup, lst_list, lst_tup, dCallC, notVr, semC,
  Option.bind_some, Option.map_some, Option.bind_none, Option.map_none, List.getElem?_cons_zero, List.getElem?_cons_succ, List.length_cons, List.length_nil, List.map_cons, List.map_nil, List.replicate, List.append_nil, List.nil_append, List.cons_append, List.set_cons_zero, List.set_cons_succ, List.all_cons, List.all_nil, Nat.sub_self, Nat.reduceAdd, Nat.reduceSub, Nat.reduceLT, Nat.reduceEqDiff, List.mem_cons, List.not_mem_nil,  Nat.reduceLeDiff, if_true, if_false, reduceIte, ite_self, Bool.false_eq_true, Bool.not_true, Bool.not_false, decide_true, decide_false, Option.getD_some, Option.getD_none, Bool.true_and, Bool.and_true, Bool.false_and, Bool.and_false, false_and, and_false, true_and, and_true, not_true_eq_false, not_false_eq_true, or_self, or_false, false_or, List.isEmpty_cons, List.isEmpty_nil, Nat.zero_ne_one, *])
/-! ### sizes -/
def rmx (l : List P) : Int := match l with
  | [] => 0
  | p :: l => imax p.1 (l.map (·.1))
def cmx (l : List P) : Int := match l with
  | [] => 0
  | p :: l => imax p.2 (l.map (·.2))
theorem rmx_max {l : List P} (h : l ≠ []) : bMaxA (.list (l.map fun q => .int q.1)) = some (.sh (.int (rmx l))) := by
  cases l with
  | nil => exact absurd rfl h
  | cons p l =>
    have : (p :: l).map (fun q : P => PyData.int q.1) = ((p :: l).map (·.1)).map .int := by rw [List.map_map]; rfl
    rw [this]
    show bMax (.list (((p :: l).map (·.1)).map .int)) = _
    simp only [bMax, ints?_map]
    rfl
theorem cmx_max {l : List P} (h : l ≠ []) : bMaxA (.list (l.map fun q => .int q.2)) = some (.sh (.int (cmx l))) := by
  cases l with
  | nil => exact absurd rfl h
  | cons p l =>
    have : (p :: l).map (fun q : P => PyData.int q.2) = ((p :: l).map (·.2)).map .int := by rw [List.map_map]; rfl
    rw [this]
    show bMax (.list (((p :: l).map (·.2)).map .int)) = _
    simp only [bMax, ints?_map]
    rfl
theorem imax_ge : ∀ (ns : List Int) (n x : Int), x ∈ n :: ns → x ≤ imax n ns
  | [], n, x, h => by
    rw [List.mem_singleton] at h
    subst h
    exact Int.le_refl _
  | m :: ns, n, x, h => by
    have e : imax n (m :: ns) = imax (if n < m then m else n) ns := rfl
    rw [e]
    have g := imax_ge ns (if n < m then m else n) (if n < m then m else n) List.mem_cons_self
    rcases List.mem_cons.mp h with rfl | h
    · split at g <;> rename_i z
      · rw [if_pos z]; omega
      · rw [if_neg z]; exact g
    · rcases List.mem_cons.mp h with rfl | h
      · split at g <;> rename_i z
        · rw [if_pos z]; exact g
        · rw [if_neg z]; omega
      · exact imax_ge ns _ x (List.mem_cons_of_mem _ h)
theorem rmx_mem {l : List P} (h : l ≠ []) : ∃ p ∈ l, p.1 = rmx l := by
  cases l with
  | nil => exact absurd rfl h
  | cons p l =>
    have := imax_mem (l.map (·.1)) p.1
    rw [show p.1 :: l.map (·.1) = (p :: l).map (·.1) from rfl] at this
    obtain ⟨q, hq, e⟩ := List.mem_map.mp this
    exact ⟨q, hq, e⟩
theorem cmx_mem {l : List P} (h : l ≠ []) : ∃ p ∈ l, p.2 = cmx l := by
  cases l with
  | nil => exact absurd rfl h
  | cons p l =>
    have := imax_mem (l.map (·.2)) p.2
    rw [show p.2 :: l.map (·.2) = (p :: l).map (·.2) from rfl] at this
    obtain ⟨q, hq, e⟩ := List.mem_map.mp this
    exact ⟨q, hq, e⟩
theorem rmx_ge {l : List P} {p : P} (h : p ∈ l) : p.1 ≤ rmx l := by
  cases l with
  | nil => cases h
  | cons q l => exact imax_ge (l.map (·.1)) q.1 p.1 (by rw [show q.1 :: l.map (·.1) = (q :: l).map (·.1) from rfl]; exact List.mem_map_of_mem h)
theorem cmx_ge {l : List P} {p : P} (h : p ∈ l) : p.2 ≤ cmx l := by
  cases l with
  | nil => cases h
  | cons q l => exact imax_ge (l.map (·.2)) q.2 p.2 (by rw [show q.2 :: l.map (·.2) = (q :: l).map (·.2) from rfl]; exact List.mem_map_of_mem h)
theorem min_of {xs : List Int} (h : xs ≠ []) : ∃ m, bMinA (.list (xs.map .int)) = some (.sh (.int m)) := by
  cases xs with
  | nil => exact absurd rfl h
  | cons n ns =>
    refine ⟨imin n ns, ?_⟩
    show bMin (.list ((n :: ns).map .int)) = _
    simp only [bMin, ints?_map]
    rfl
theorem d_box_in {l : List P} (hl : Flo l) : ∃ a b, m_box_in [floorD l] = some (false, .tuple [.int a, .int b, .int (rmx l), .int (cmx l)]) := by
  obtain ⟨a, e1⟩ := min_of (xs := l.map (·.1)) (by simpa using hl.ne)
  obtain ⟨b, e2⟩ := min_of (xs := l.map (·.2)) (by simpa using hl.ne)
  have e3 := rmx_max hl.ne
  have e4 := cmx_max hl.ne
  have pl := hl.len
  rw [List.map_map] at e1 e2
  have f1 : (l.map (PyData.int ∘ fun q => q.1)) = l.map fun q => PyData.int q.1 := rfl
  have f2 : (l.map (PyData.int ∘ fun q => q.2)) = l.map fun q => PyData.int q.2 := rfl
  rw [f1] at e1
  rw [f2] at e2
  have l1 := dLc_prs (i := 3) (j := 4) (fi := dItems (dVar 0)) (fe := dVar 3) (fun q => PyData.int q.1) (ρ := ⟨false, [some (.sh (floorD l)), none, none, none, none]⟩) l (items_floor rfl) rfl (by omega) fun q hq => rfl
  have l2 := dLc_prs (i := 3) (j := 4) (fi := dItems (dVar 0)) (fe := dVar 4) (fun q => PyData.int q.2) (ρ := ⟨false, [some (.sh (floorD l)), none, none, none, none]⟩) l (items_floor rfl) rfl (by omega) fun q hq => rfl
  generalize PyData.list (l.map fun q => PyData.int q.1) = L1 at l1 e1 e3
  generalize PyData.list (l.map fun q => PyData.int q.2) = L2 at l2 e2 e4
  clear hl pl f1 f2
  refine ⟨a, b, ?_⟩
  unfold m_box_in b_box_in
  walk_at "pd*"
/-! ### weaves_of -/
def isW (l : List P) (p : P) : Bool := !decide (p = (1, 1)) && (unwB l p.1 p.2).isSome
def up1 (p : P) : P := (p.1 + 1, p.2 + 1)
def wvs (l : List P) (R C : Nat) : List P := ((box R C).map up1).filter (isW l)
theorem mem_wvs {l : List P} {R C : Nat} {p : P} : p ∈ wvs l R C ↔ (1 ≤ p.1 ∧ p.1 ≤ (R : Int)) ∧ (1 ≤ p.2 ∧ p.2 ≤ (C : Int)) ∧ isW l p = true := by
  unfold wvs
  rw [List.mem_filter, List.mem_map]
  constructor
  · rintro ⟨⟨q, hq, rfl⟩, h⟩
    obtain ⟨h1, h2⟩ := mem_box.mp hq
    unfold up1 at h ⊢
    exact ⟨by simp only; omega, by simp only; omega, h⟩
  · rintro ⟨h1, h2, h3⟩
    refine ⟨⟨(p.1 - 1, p.2 - 1), mem_box.mpr (by simp only; omega), ?_⟩, h3⟩
    obtain ⟨x, y⟩ := p
    unfold up1
    simp only [Prod.mk.injEq]
    omega
theorem wvs_succ (l : List P) (R C : Nat) : wvs l (R + 1) C = wvs l R C ++ ((List.range C).map fun (c : Nat) => ((R : Int) + 1, (c : Int) + 1)).filter (isW l) := by
  unfold wvs
  rw [box_succ, List.map_append, List.filter_append, List.map_map]
  rfl
theorem wvs_len (l : List P) (R C : Nat) : (wvs l R C).length ≤ R * C := by
  unfold wvs
  refine Nat.le_trans (List.length_filter_le _ _) ?_
  rw [List.length_map, len_box]
  exact Nat.le_refl _
theorem d_weaves_of {l : List P} (hl : Flo l) {R C : Nat} (hR : rmx l + 1 = (R : Int)) (hC : cmx l + 1 = (C : Int)) (bR : R ≤ 60) (bC : C ≤ 60) : m_weaves_of [floorD l] = some (false, floorD (wvs l R C)) := by
  obtain ⟨a, b, e1⟩ := d_box_in hl
  have e0 := d_need_floor hl
  have i0 := imm_floor l
  let E : List P → Option Sl → Option Sl → En := fun L s6 s7 => ⟨false, [some (.sh (floorD l)), some (.sh (.int a)), some (.sh (.int b)), some (.sh (.int (rmx l))), some (.sh (.int (cmx l))), some (.own (cellsD L)), s6, s7]⟩
  have inner : ∀ (i : Nat) (L : List P), i < R → L.length ≤ 4000 → l2_weaves_of (E L (some (.sh (.int ((i : Int) + 1)))) none) = some (.nx (E (L ++ ((List.range C).map fun (c : Nat) => ((i : Int) + 1, (c : Int) + 1)).filter (isW l)) (some (.sh (.int ((i : Int) + 1)))) none)) := by
    intro i L hi hL
    unfold l2_weaves_of
    refine dFor_at (n := C) (fun j => E (L ++ ((List.range j).map fun (c : Nat) => ((i : Int) + 1, (c : Int) + 1)).filter (isW l)) (some (.sh (.int ((i : Int) + 1)))) none) (rgD 1 C) ?_ (rgD_len _ _) fun j d hd => ?_
    · have := rg2_at (fa := dC (.int 1)) (fb := dBin bAdd (dVar 4) (dC (.int 2))) (ρ := E L (some (.sh (.int ((i : Int) + 1)))) none) (ρ1 := E L (some (.sh (.int ((i : Int) + 1)))) none) (ρ2 := E L (some (.sh (.int ((i : Int) + 1)))) none) (a := 1) (b := cmx l + 2) rfl rfl ⟨by decide, by decide⟩ ⟨by omega, by omega⟩
      rw [show (cmx l + 2 - 1).toNat = C by omega] at this
      simpa using this
    · obtain ⟨hj, rfl⟩ := rgD_at hd
      have ew : (1 : Int) + (j : Int) = (j : Int) + 1 := by omega
      rw [ew, range_last, List.filter_append]
      have u := d_unwoven hl (h := (i : Int) + 1) (w := (j : Int) + 1) (by omega) (by omega) (by omega) (by omega)
      have nn : cNe (.tuple [.int ((i : Int) + 1), .int ((j : Int) + 1)]) (.tuple [.int 1, .int 1]) = some (!decide ((((i : Int) + 1, (j : Int) + 1) : P) = (1, 1))) := ne_pr ((i : Int) + 1, (j : Int) + 1) (1, 1)
      have hlen : (L ++ ((List.range j).map fun (c : Nat) => ((i : Int) + 1, (c : Int) + 1)).filter (isW l)).length < 16777216 := by
        have := List.length_filter_le (isW l) ((List.range j).map fun (c : Nat) => ((i : Int) + 1, (c : Int) + 1))
        rw [List.length_map, List.length_range] at this
        rw [List.length_append]
        omega
      have ap := app_list (xs := (L ++ ((List.range j).map fun (c : Nat) => ((i : Int) + 1, (c : Int) + 1)).filter (isW l)).map prD) (.tuple [.int ((i : Int) + 1), .int ((j : Int) + 1)]) (by rw [List.length_map]; exact hlen)
      have ec : cellsD (L ++ ((List.range j).map fun (c : Nat) => ((i : Int) + 1, (c : Int) + 1)).filter (isW l) ++ [((i : Int) + 1, (j : Int) + 1)]) = .list ((L ++ ((List.range j).map fun (c : Nat) => ((i : Int) + 1, (c : Int) + 1)).filter (isW l)).map prD ++ [.tuple [.int ((i : Int) + 1), .int ((j : Int) + 1)]]) := by
        unfold cellsD
        rw [List.map_append]
        rfl
      have iw : isW l ((i : Int) + 1, (j : Int) + 1) = (!decide ((((i : Int) + 1, (j : Int) + 1) : P) = (1, 1)) && (unwB l ((i : Int) + 1) ((j : Int) + 1)).isSome) := rfl
      rw [← List.append_assoc]
      generalize hG : L ++ ((List.range j).map fun (c : Nat) => ((i : Int) + 1, (c : Int) + 1)).filter (isW l) = G at ap ec hlen ⊢
      have gc : cellsD G = .list (G.map prD) := rfl
      simp only [List.filter_cons, List.filter_nil, iw]
      unfold unwD at u
      cases k1 : decide ((((i : Int) + 1, (j : Int) + 1) : P) = (1, 1)) with
      | true =>
        rw [k1] at nn
        simp only [E]
        clear hd hj ew hlen hG iw hi hL hR hC bR bC hl e1 e0 u ap ec gc
        simp only [Bool.not_true, Bool.false_and, Bool.false_eq_true, if_false, List.append_nil]
        unfold turnOf l1_weaves_of
        walk_at "pd*"
      | false =>
        rw [k1] at nn
        cases k2 : unwB l ((i : Int) + 1) ((j : Int) + 1) with
        | none =>
          rw [k2] at u
          simp only [E]
          clear hd hj ew hlen hG iw hi hL hR hC bR bC hl e1 e0 ap ec gc
          simp only [Bool.not_false, Bool.true_and, Option.isSome_none, Bool.false_eq_true, if_false, List.append_nil]
          unfold turnOf l1_weaves_of
          walk_at "pd*"
        | some x =>
          rw [k2] at u
          simp only [E]
          clear hd hj ew hlen hG iw hi hL hR hC bR bC hl e1 e0
          simp only [Bool.not_false, Bool.true_and, Option.isSome_some, if_true]
          rw [ec, gc]
          clear ec gc
          unfold turnOf l1_weaves_of
          walk_at "pd*"
  have outer : dFor (dRg2 (dC (.int 1)) (dBin bAdd (dVar 3) (dC (.int 2)))) (gN 6) l2_weaves_of [6, 7] (E [] none none) = some (.nx (E (wvs l R C) none none)) := by
    refine dFor_at (n := R) (fun i => E (wvs l i C) none none) (rgD 1 R) ?_ (rgD_len _ _) fun i d hd => ?_
    · have := rg2_at (fa := dC (.int 1)) (fb := dBin bAdd (dVar 3) (dC (.int 2))) (ρ := E [] none none) (ρ1 := E [] none none) (ρ2 := E [] none none) (a := 1) (b := rmx l + 2) rfl rfl ⟨by decide, by decide⟩ ⟨by omega, by omega⟩
      rw [show (rmx l + 2 - 1).toNat = R by omega] at this
      exact this
    · obtain ⟨hi, rfl⟩ := rgD_at hd
      have ew : (1 : Int) + (i : Int) = (i : Int) + 1 := by omega
      rw [ew]
      have hlen := wvs_len l i C
      have h2 : i * C ≤ 60 * 60 := Nat.mul_le_mul (by omega) bC
      have st := inner i (wvs l i C) hi (by omega)
      rw [← wvs_succ] at st
      exact turn_gN st rfl
  simp only [E] at outer
  have ce : cellsD [] = .list [] := rfl
  rw [ce] at outer
  generalize wvs l R C = WW at outer ⊢
  clear inner E hR hC bR bC hl ce
  unfold m_weaves_of b_weaves_of
  walk_at "pd*"
end PD.K81
set_option Elab.async false
set_option linter.all false
set_option maxRecDepth 100000
set_option maxHeartbeats 4000000
namespace PD.K81
set_option autoImplicit false
open PySem PySem.Spec L2 PD
open PyProof.Rows hiding St
local macro_rules | `(tactic| walk_at "pd") => `(tactic| simp only [dC, dVar, dBin, dCmp_ap, dCmpT, wB, dChainT, dOfT, dTruT, dAndT, dOrT, dNotT, dAndV, dOrV, dNotV, dIf, dNeg, dNil, dCons, gives, give_vr, give_sh, give_fr, get_sh, get_fr, get_vr, En.at, En.with, Sl.d, dTup, dLst, dCut, dNo, dPart, bCut, dNx, dSeq, dIfS, dRet, dRetN, dBk, dCt, dDrop, dStIx, set_l0, set_l1, gN, gCons, gTup, gNil, dSet, dPar, dUnp, settle, puts, En.put, En.set, dItems, dRg1, dRg2, itemsOf, dB1, semOf, slots, endOf, dCall, gets, light_f, light_t, wOf_f, wOf_t, is_nn, is_bn, is_in, is_sn, is_ln, is_tn, is_bb, isn_nn, isn_bn, isn_in, isn_sn, isn_ln, isn_tn, isn_bb, tyD_list, tyD_dict, eq_self, imm_none, imm_bool, imm_int, imm_str, imm_tup, imm_list, imms_nil, imms_cons, inner_list,
  isi_int, isi_bool, isi_tuple, isi_list, isi_str, isi_dict, isInt, isBool, isTup, isLst, isStr, isDic, En.wipe, wipeS, restoreS, dMut, En.mine, En.own, dEnum, dZip, len_floor, len_cells, len_pr, tup_cells, tup_floor, lst_floor, lst_cells, imm_pr, imm_floor, imms_prs, inner_cells, in_floor, in_cells, notIn_floor, notIn_cells, ne_cells_nil, eq_cells_nil, ne_floor_nil, eq_floor_nil, eq_floor, ne_floor, eq_cells, ne_cells, eq_pr, ne_pr, lt_pr, sort_cells, sortA_cells, tyM_list, tyM_cells, dash_list, dash_dict, ix_pr0, ix_pr1, tru_floor, tru_cells, isTup_floor, isTup_pr, isLst_cells, isLst_floor, max_pr, dNewT, dNewK, tru_none, tru_bool, tru_int, tru_list, tru_tup, len_list, len_tup, len_dict, PD.add_int, PD.sub_int, int_int, abs_int, le_int, lt_int, gt_int, ge_int, PD.eq_int, PD.ne_int, PD.ne_bool, PD.eq_bool, PD.eq_nil, ix_tup0, ix_tup1, ix_tup2, ix_tup3, ix_list0, ix_list1, tup_list, tup_tup, lst_list, lst_tup, dCallC, notVr, semC,
  Option.bind_some, Option.map_some, Option.bind_none, Option.map_none, List.getElem?_cons_zero, List.getElem?_cons_succ, List.length_cons, List.length_nil, List.map_cons, List.map_nil, List.replicate, List.append_nil, List.nil_append, List.cons_append, List.set_cons_zero, List.set_cons_succ, List.all_cons, List.all_nil, Nat.sub_self, Nat.reduceAdd, Nat.reduceSub, Nat.reduceLT, Nat.reduceEqDiff, List.mem_cons, List.not_mem_nil,  Nat.reduceLeDiff, if_true, if_false, reduceIte, ite_self, Bool.false_eq_true, Bool.not_true, Bool.not_false, decide_true, decide_false, Option.getD_some, Option.getD_none, Bool.true_and, Bool.and_true, Bool.false_and, Bool.and_false, false_and, and_false, true_and, and_true, not_true_eq_false, not_false_eq_true, or_self, or_false, false_or, List.isEmpty_cons, List.isEmpty_nil, Nat.zero_ne_one])
local macro_rules | `(tactic| walk_at "pd*") => `(tactic| simp only [dC, dVar, dBin, dCmp_ap, dCmpT, wB, dChainT, dOfT, dTruT, dAndT, dOrT, dNotT, dAndV, dOrV, dNotV, dIf, dNeg, dNil, dCons, gives, give_vr, give_sh, give_fr, get_sh, get_fr, get_vr, En.at, En.with, Sl.d, dTup, dLst, dCut, dNo, dPart, bCut, dNx, dSeq, dIfS, dRet, dRetN, dBk, dCt, dDrop, dStIx, set_l0, set_l1, gN, gCons, gTup, gNil, dSet, dPar, dUnp, settle, puts, En.put, En.set, dItems, dRg1, dRg2, itemsOf, dB1, semOf, slots, endOf, dCall, gets, light_f, light_t, wOf_f, wOf_t, is_nn, is_bn, is_in, is_sn, is_ln, is_tn, is_bb, isn_nn, isn_bn, isn_in, isn_sn, isn_ln, isn_tn, isn_bb, tyD_list, tyD_dict, eq_self, imm_none, imm_bool, imm_int, imm_str, imm_tup, imm_list, imms_nil, imms_cons, inner_list,
  isi_int, isi_bool, isi_tuple, isi_list, isi_str, isi_dict, isInt, isBool, isTup, isLst, isStr, isDic, En.wipe, wipeS, restoreS, dMut, En.mine, En.own, dEnum, dZip, len_floor, len_cells, len_pr, tup_cells, tup_floor, lst_floor, lst_cells, imm_pr, imm_floor, imms_prs, inner_cells, in_floor, in_cells, notIn_floor, notIn_cells, ne_cells_nil, eq_cells_nil, ne_floor_nil, eq_floor_nil, eq_floor, ne_floor, eq_cells, ne_cells, eq_pr, ne_pr, lt_pr, sort_cells, sortA_cells, tyM_list, tyM_cells, dash_list, dash_dict, ix_pr0, ix_pr1, tru_floor, tru_cells, isTup_floor, isTup_pr, isLst_cells, isLst_floor, max_pr, dNewT, dNewK, tru_none, tru_bool, tru_int, tru_list, tru_tup, len_list, len_tup, len_dict, PD.add_int, PD.sub_int, int_int, abs_int, le_int, lt_int, gt_int, ge_int, PD.eq_int, PD.ne_int, PD.ne_bool, PD.eq_bool, PD.eq_nil, ix_tup0, ix_tup1, ix_tup2, ix_tup3, ix_list0, ix_list1, tup_list, tup_tup, lst_list, lst_tup, dCallC, notVr, semC,
  Option.bind_some, Option.map_some, Option.bind_none, Option.map_none, List.getElem?_cons_zero, List.getElem?_cons_succ, List.length_cons, List.length_nil, List.map_cons, List.map_nil, List.replicate, List.append_nil, List.nil_append, List.cons_append, List.set_cons_zero, List.set_cons_succ, List.all_cons, List.all_nil, Nat.sub_self, Nat.reduceAdd, Nat.reduceSub, Nat.reduceLT, Nat.reduceEqDiff, List.mem_cons, List.not_mem_nil,  Nat.reduceLeDiff, if_true, if_false, reduceIte, ite_self, Bool.false_eq_true, Bool.not_true, Bool.not_false, decide_true, decide_false, Option.getD_some, Option.getD_none, Bool.true_and, Bool.and_true, Bool.false_and, Bool.and_false, false_and, and_false, true_and, and_true, not_true_eq_false, not_false_eq_true, or_self, or_false, false_or, List.isEmpty_cons, List.isEmpty_nil, Nat.zero_ne_one, *])
/-! ### is_woven -/
def inAll (p : List P) (h w : Int) : Bool := p.all fun q => decide (q.1 < h) && decide (q.2 < w)
theorem d_is_woven {l a p : List P} (hl : Flo l) (ha : Flo a) (hp : Flo p) {h w : Int} (h0 : 1 ≤ h) (h1 : h ≤ 60) (w0 : 1 ≤ w) (w1 : w ≤ 60) :
    m_is_woven [floorD l, .int h, .int w, .tuple [floorD a, floorD p]] = some (false, .bool (inAll p h w && (decide ((a.length : Int) * p.length = l.length) && decide (Wv a h w p = l)))) := by
  have e1 := d_need_block hl h0 h1 w0 w1
  have e2 := d_fits_floor ha
  have e3 := d_fits_floor hp
  have e4 := d_woven_in (l := a) (pat := p) (a := h) (b := w) ha.len (Nat.le_trans hp.len (by decide)) ⟨by omega, by omega⟩ ⟨by omega, by omega⟩ it_floor it_floor
  have pl := hp.len
  have al := ha.len
  have fi : dItems (dBin bIx (dVar 3) (dC (.int 1))) ⟨false, [some (.sh (floorD l)), some (.sh (.int h)), some (.sh (.int w)), some (.sh (.tuple [floorD a, floorD p])), none, none]⟩ = some (p.map prD, ⟨false, [some (.sh (floorD l)), some (.sh (.int h)), some (.sh (.int w)), some (.sh (.tuple [floorD a, floorD p])), none, none]⟩) := by
    clear hl ha hp h0 h1 w0 w1 e1 e2 e3 e4 pl al
    walk_at "pd"
    rfl
  have lc := dLc_prs (i := 4) (j := 5) (fi := dItems (dBin bIx (dVar 3) (dC (.int 1)))) (fe := dAndV (dCmp cLt (dVar 4) (dVar 1)) (dCmp cLt (dVar 5) (dVar 2))) (fun q => PyData.bool (decide (q.1 < h) && decide (q.2 < w)))
    (ρ := ⟨false, [some (.sh (floorD l)), some (.sh (.int h)), some (.sh (.int w)), some (.sh (.tuple [floorD a, floorD p])), none, none]⟩) p fi rfl (by omega) fun q hq => by
      clear hl ha hp h0 h1 w0 w1 e1 e2 e3 e4 pl al fi hq
      cases z : decide (q.1 < h) <;> walk_at "pd*"
  have ba := bAll_bools (p.map fun q => decide (q.1 < h) && decide (q.2 < w))
  have eb : (p.map fun q => decide (q.1 < h) && decide (q.2 < w)).map PyData.bool = p.map fun q => PyData.bool (decide (q.1 < h) && decide (q.2 < w)) := by rw [List.map_map]; rfl
  rw [eb] at ba
  have ea : (p.map fun q => decide (q.1 < h) && decide (q.2 < w)).all id = inAll p h w := by unfold inAll; rw [List.all_map]; rfl
  rw [ea] at ba
  have m1 : bMul (.int (a.length : Int)) (.int (p.length : Int)) = some (.sh (.int ((a.length : Int) * p.length))) := PD.mul_int (.inl ⟨by omega, by omega⟩)
  have ce : cEq (cellsD (Wv a h w p)) (cellsD l) = some (decide (Wv a h w p = l)) := eq_cells _ _
  have i0 := imm_floor l
  have i1 := imm_floor a
  have i2 := imm_floor p
  have i3 := inner_cells (Wv a h w p)
  generalize Wv a h w p = W at e4 ce i3 ⊢
  generalize PyData.list (p.map fun q => PyData.bool (decide (q.1 < h) && decide (q.2 < w))) = bl at lc ba
  generalize inAll p h w = b1 at ba ⊢
  generalize decide (W = l) = b3 at ce ⊢
  have c2 : decide (((2 : Nat) : Int) = 2) = true := rfl
  clear hl ha hp h0 h1 w0 w1 pl al fi eb ea
  unfold m_is_woven b_is_woven
  cases b1
  · walk_at "pd*"
  · cases k : decide ((a.length : Int) * p.length = l.length) <;> walk_at "pd*"
/-! ### powers -/
theorem d_power_in {n : Int} (hn : 0 ≤ n ∧ n ≤ 1000) {k : Nat} (hk : k ≤ 100) : m_power_in [.int n, .int (k : Int)] = some (false, .int (n ^ k)) := by
  have lp : dFor (dRg1 (dVar 1)) (gN 3) l1_power_in [3] ⟨false, [some (.sh (.int n)), some (.sh (.int (k : Int))), some (.sh (.int 1)), none]⟩ = some (.nx ⟨false, [some (.sh (.int n)), some (.sh (.int (k : Int))), some (.sh (.int (n ^ k))), none]⟩) := by
    refine dFor_at (n := k) (fun i => ⟨false, [some (.sh (.int n)), some (.sh (.int (k : Int))), some (.sh (.int (n ^ i))), none]⟩) (rgD 0 k) (by rw [Int.pow_zero]; exact rg1_var (n := k) rfl (by omega)) (rgD_len _ _) fun i d hd => ?_
    have m1 : bMul (.int (n ^ i)) (.int n) = some (.sh (.int (n ^ i * n))) := PD.mul_int (.inr ⟨by omega, by omega⟩)
    rw [Int.pow_succ]
    clear hd hn hk
    unfold turnOf l1_power_in
    walk_at "pd*"
  clear hn hk
  unfold m_power_in b_power_in
  walk_at "pd*"
/-- a floor woven with itself, so many times more -/
def Wp (l : List P) (h w : Int) : Nat → List P
  | 0 => l
  | k + 1 => Wv (Wp l h w k) h w l
theorem len_Wp (l : List P) (h w : Int) : ∀ k, (Wp l h w k).length = l.length ^ (k + 1)
  | 0 => by show l.length = _; rw [Nat.pow_succ, Nat.pow_zero, Nat.one_mul]
  | k + 1 => by show (Wv (Wp l h w k) h w l).length = _; rw [len_Wv, len_Wp l h w k, Nat.pow_succ l.length (k + 1)]
theorem d_woven_times {l : List P} {h w : Int} (h0 : 1 ≤ h) (h1 : h ≤ 60) (w0 : 1 ≤ w) (w1 : w ≤ 60) (hp : Pat l h w) {k : Nat} (hk : k ≤ 50) (hn : l.length ^ (k + 1) ≤ 400) (hW : Flo (Wp l h w k)) : m_woven_times [floorD l, .int h, .int w, .int ((k : Int) + 1)] = some (false, floorD (Wp l h w k)) := by
  have hl := hp.fl
  have e1 := d_need_pattern hl h0 h1 w0 w1 hp
  have e2 := d_fits_whole ((k : Int) + 1) 1 60
  rw [decide_eq_true (by omega)] at e2
  have pl := hl.len
  have e3 := d_power_in (n := (l.length : Int)) ⟨by omega, by omega⟩ (k := k + 1) (by omega)
  have ek : ((k + 1 : Nat) : Int) = (k : Int) + 1 := by omega
  rw [ek] at e3
  have d1 : decide ((400 : Int) < (l.length : Int) ^ (k + 1)) = false := decide_eq_false (by
    have : ((l.length ^ (k + 1) : Nat) : Int) = (l.length : Int) ^ (k + 1) := Int.natCast_pow _ _
    omega)
  have e4 := d_need_fit hW.ne hW.len fun q hq => by have := hW.rng q hq; omega
  have i0 := imm_floor l
  have i1 : ∀ W : List P, inner (cellsD W) = true := inner_cells
  have lp : dFor (dRg1 (dBin bSub (dVar 3) (dC (.int 1)))) (gN 5) l1_woven_times [5] ⟨false, [some (.sh (floorD l)), some (.sh (.int h)), some (.sh (.int w)), some (.sh (.int ((k : Int) + 1))), some (.own (cellsD l)), none]⟩ =
      some (.nx ⟨false, [some (.sh (floorD l)), some (.sh (.int h)), some (.sh (.int w)), some (.sh (.int ((k : Int) + 1))), some (.own (cellsD (Wp l h w k))), none]⟩) := by
    refine dFor_at (n := k) (fun i => ⟨false, [some (.sh (floorD l)), some (.sh (.int h)), some (.sh (.int w)), some (.sh (.int ((k : Int) + 1))), some (.own (cellsD (Wp l h w i))), none]⟩) (rgD 0 k) ?_ (rgD_len _ _) fun i d hd => ?_
    · refine rg1_at (n := k) ?_ (by omega)
      have : (k : Int) + 1 - 1 = k := by omega
      clear hp hk hn hW hl e1 e2 pl e3 d1 e4 h0 h1 w0 w1
      walk_at "pd*"
      rfl
    · obtain ⟨hi, rfl⟩ := rgD_at hd
      have l4 : (Wp l h w i).length ≤ 400 := by
        rw [len_Wp]
        exact Nat.le_trans (Nat.pow_le_pow_right hl.pos (by omega)) hn
      have e5 := d_woven_in (l := Wp l h w i) (pat := l) (a := h) (b := w) l4 (by omega) ⟨by omega, by omega⟩ ⟨by omega, by omega⟩ it_cells it_floor
      have e6 : Wp l h w (i + 1) = Wv (Wp l h w i) h w l := rfl
      rw [e6]
      have i2 := inner_cells (Wv (Wp l h w i) h w l)
      have i3 := inner_cells (Wp l h w i)
      generalize Wv (Wp l h w i) h w l = W2 at e5 i2 ⊢
      generalize Wp l h w i = W1 at e5 i3 ⊢
      clear hp hk hn hW hl e1 e2 pl e3 d1 e4 h0 h1 w0 w1 l4 e6 hd hi
      unfold turnOf l1_woven_times
      walk_at "pd*"
  generalize Wp l h w k = W at e4 lp ⊢
  have i2 := inner_cells W
  clear hp hk hn hW hl pl h0 h1 w0 w1 ek i1
  unfold m_woven_times b_woven_times
  walk_at "pd*"
end PD.K81
set_option Elab.async false
set_option linter.all false
set_option maxRecDepth 100000
set_option maxHeartbeats 4000000
namespace PD.K81
set_option autoImplicit false
open PySem PySem.Spec L2 PD
open PyProof.Rows hiding St
local macro_rules | `(tactic| walk_at "pd") => `(tactic| simp only [dC, dVar, dBin, dCmp_ap, dCmpT, wB, dChainT, dOfT, dTruT, dAndT, dOrT, dNotT, dAndV, dOrV, dNotV, dIf, dNeg, dNil, dCons, gives, give_vr, give_sh, give_fr, get_sh, get_fr, get_vr, En.at, En.with, Sl.d, dTup, dLst, dCut, dNo, dPart, bCut, dNx, dSeq, dIfS, dRet, dRetN, dBk, dCt, dDrop, dStIx, set_l0, set_l1, gN, gCons, gTup, gNil, dSet, dPar, dUnp, settle, puts, En.put, En.set, dItems, dRg1, dRg2, itemsOf, dB1, semOf, slots, endOf, dCall, gets, light_f, light_t, wOf_f, wOf_t, is_nn, is_bn, is_in, is_sn, is_ln, is_tn, is_bb, isn_nn, isn_bn, isn_in, isn_sn, isn_ln, isn_tn, isn_bb, tyD_list, tyD_dict, eq_self, imm_none, imm_bool, imm_int, imm_str, imm_tup, imm_list, imms_nil, imms_cons, inner_list,
  isi_int, isi_bool, isi_tuple, isi_list, isi_str, isi_dict, isInt, isBool, isTup, isLst, isStr, isDic, En.wipe, wipeS, restoreS, dMut, En.mine, En.own, dEnum, dZip, len_floor, len_cells, len_pr, tup_cells, tup_floor, lst_floor, lst_cells, imm_pr, imm_floor, imms_prs, inner_cells, in_floor, in_cells, notIn_floor, notIn_cells, ne_cells_nil, eq_cells_nil, ne_floor_nil, eq_floor_nil, eq_floor, ne_floor, eq_cells, ne_cells, eq_pr, ne_pr, lt_pr, sort_cells, sortA_cells, tyM_list, tyM_cells, dash_list, dash_dict, ix_pr0, ix_pr1, tru_floor, tru_cells, isTup_floor, isTup_pr, isLst_cells, isLst_floor, max_pr, dNewT, dNewK, tru_none, tru_bool, tru_int, tru_list, tru_tup, len_list, len_tup, len_dict, PD.add_int, PD.sub_int, int_int, abs_int, le_int, lt_int, gt_int, ge_int, PD.eq_int, PD.ne_int, PD.ne_bool, PD.eq_bool, PD.eq_nil, ix_tup0, ix_tup1, ix_tup2, ix_tup3, ix_list0, ix_list1, tup_list, tup_tup, lst_list, lst_tup, dCallC, notVr, semC,
  Option.bind_some, Option.map_some, Option.bind_none, Option.map_none, List.getElem?_cons_zero, List.getElem?_cons_succ, List.length_cons, List.length_nil, List.map_cons, List.map_nil, List.replicate, List.append_nil, List.nil_append, List.cons_append, List.set_cons_zero, List.set_cons_succ, List.all_cons, List.all_nil, Nat.sub_self, Nat.reduceAdd, Nat.reduceSub, Nat.reduceLT, Nat.reduceEqDiff, List.mem_cons, List.not_mem_nil,  Nat.reduceLeDiff, if_true, if_false, reduceIte, ite_self, Bool.false_eq_true, Bool.not_true, Bool.not_false, decide_true, decide_false, Option.getD_some, Option.getD_none, Bool.true_and, Bool.and_true, Bool.false_and, Bool.and_false, false_and, and_false, true_and, and_true, not_true_eq_false, not_false_eq_true, or_self, or_false, false_or, List.isEmpty_cons, List.isEmpty_nil, Nat.zero_ne_one])
local macro_rules | `(tactic| walk_at "pd*") => `(tactic| simp only [dC, dVar, dBin, dCmp_ap, dCmpT, wB, dChainT, dOfT, dTruT, dAndT, dOrT, dNotT, dAndV, dOrV, dNotV, dIf, dNeg, dNil, dCons, gives, give_vr, give_sh, give_fr, get_sh, get_fr, get_vr, En.at, En.with, Sl.d, dTup, dLst, dCut, dNo, dPart, bCut, dNx, dSeq, dIfS, dRet, dRetN, dBk, dCt, dDrop, dStIx, set_l0, set_l1, gN, gCons, gTup, gNil, dSet, dPar, dUnp, settle, puts, En.put, En.set, dItems, dRg1, dRg2, itemsOf, dB1, semOf, slots, endOf, dCall, gets, light_f, light_t, wOf_f, wOf_t, is_nn, is_bn, is_in, is_sn, is_ln, is_tn, is_bb, isn_nn, isn_bn, isn_in, isn_sn, isn_ln, isn_tn, isn_bb, tyD_list, tyD_dict, eq_self, imm_none, imm_bool, imm_int, imm_str, imm_tup, imm_list, imms_nil, imms_cons, inner_list,
  isi_int, isi_bool, isi_tuple, isi_list, isi_str, isi_dict, isInt, isBool, isTup, isLst, isStr, isDic, En.wipe, wipeS, restoreS, dMut, En.mine, En.own, dEnum, dZip, len_floor, len_cells, len_pr, tup_cells, tup_floor, lst_floor, lst_cells, imm_pr, imm_floor, imms_prs, inner_cells, in_floor, in_cells, notIn_floor, notIn_cells, ne_cells_nil, eq_cells_nil, ne_floor_nil, eq_floor_nil, eq_floor, ne_floor, eq_cells, ne_cells, eq_pr, ne_pr, lt_pr, sort_cells, sortA_cells, tyM_list, tyM_cells, dash_list, dash_dict, ix_pr0, ix_pr1, tru_floor, tru_cells, isTup_floor, isTup_pr, isLst_cells, isLst_floor, max_pr, dNewT, dNewK, tru_none, tru_bool, tru_int, tru_list, tru_tup, len_list, len_tup, len_dict, PD.add_int, PD.sub_int, int_int, abs_int, le_int, lt_int, gt_int, ge_int, PD.eq_int, PD.ne_int, PD.ne_bool, PD.eq_bool, PD.eq_nil, ix_tup0, ix_tup1, ix_tup2, ix_tup3, ix_list0, ix_list1, tup_list, tup_tup, lst_list, lst_tup, dCallC, notVr, semC,
  Option.bind_some, Option.map_some, Option.bind_none, Option.map_none, List.getElem?_cons_zero, List.getElem?_cons_succ, List.length_cons, List.length_nil, List.map_cons, List.map_nil, List.replicate, List.append_nil, List.nil_append, List.cons_append, List.set_cons_zero, List.set_cons_succ, List.all_cons, List.all_nil, Nat.sub_self, Nat.reduceAdd, Nat.reduceSub, Nat.reduceLT, Nat.reduceEqDiff, List.mem_cons, List.not_mem_nil,  Nat.reduceLeDiff, if_true, if_false, reduceIte, ite_self, Bool.false_eq_true, Bool.not_true, Bool.not_false, decide_true, decide_false, Option.getD_some, Option.getD_none, Bool.true_and, Bool.and_true, Bool.false_and, Bool.and_false, false_and, and_false, true_and, and_true, not_true_eq_false, not_false_eq_true, or_self, or_false, false_or, List.isEmpty_cons, List.isEmpty_nil, Nat.zero_ne_one, *])
/-! ### sameness -/
def plainD : Nat → D → Bool
  | 0, _ => false
  | n + 1, d => match d with
    | .none => true
    | .bool _ => true
    | .int _ => true
    | .tuple ds => ds.all (plainD n) && decide (ds.length ≤ 100000)
    | .list ds => ds.all (plainD n) && decide (ds.length ≤ 100000)
    | _ => false
theorem same_items {n : Nat} {ds : List D} (ih : ∀ d, plainD n d = true → m__law_same n [d, d] = some (false, .bool true)) (h : ds.all (plainD n) = true) (hl : ds.length ≤ 100000) (d0 : D) (hb : bLen d0 = some (.sh (.int (ds.length : Int)))) (hx : ∀ (i : Nat) d, ds[i]? = some d → bIx d0 (.int (i : Int)) = some (.sh d)) :
    dLc (dRg1 (dB1 bLen (dVar 1))) (gN 2) (dNotT (dTruT (dCall (m__law_same n) (dCons (dBin bIx (dVar 0) (dVar 2)) (dCons (dBin bIx (dVar 1) (dVar 2)) dNil))))) (dC (.int 1)) [2] ⟨false, [some (.sh d0), some (.sh d0), none]⟩ = some (.fr (.list []), ⟨false, [some (.sh d0), some (.sh d0), none]⟩) := by
  have fi : dRg1 (dB1 bLen (dVar 1)) ⟨false, [some (.sh d0), some (.sh d0), none]⟩ = some (rgD 0 ds.length, ⟨false, [some (.sh d0), some (.sh d0), none]⟩) := by
    refine rg1_at ?_ (by omega)
    clear hx hl h
    walk_at "pd*"
  have := dLc_one (emb := fun (i : Nat) => PyData.int (i : Int)) (ft := dNotT (dTruT (dCall (m__law_same n) (dCons (dBin bIx (dVar 0) (dVar 2)) (dCons (dBin bIx (dVar 1) (dVar 2)) dNil))))) (fe := dC (.int 1)) (i := 2) (fun _ => false) (fun _ => .int 1) (List.range ds.length) fi (rgD_nat _) (by rw [List.length_range]; omega) (fun i hi => ?_) fun i hi z => by cases z
  · have e : (List.range ds.length).filter (fun _ => false) = [] := List.filter_eq_nil_iff.mpr (by simp)
    rw [e] at this
    exact this
  · have hi := List.mem_range.mp hi
    have g1 := hx i ds[i] (List.getElem?_eq_getElem hi)
    have g2 := ih ds[i] (List.all_eq_true.mp h _ (List.getElem_mem hi))
    clear hx ih h hl fi hb
    walk_at "pd*"
theorem same_refl : ∀ (n : Nat) (d : D), plainD n d = true → m__law_same n [d, d] = some (false, .bool true)
  | 0, _, h => by cases h
  | n + 1, d, h => by
    have ih := same_refl n
    show (if [d, d].length = 2 then semOf 3 (b__law_same (m__law_same n)) [d, d] else none) = _
    rw [if_pos (show [d, d].length = 2 from rfl)]
    cases d with
    | none => 
      clear ih
      unfold b__law_same
      walk_at "pd*"
    | bool b =>
      clear ih
      unfold b__law_same
      cases b <;> walk_at "pd*"
    | int i =>
      clear ih
      unfold b__law_same
      walk_at "pd*"
    | str x => cases h
    | dict k => cases h
    | tuple ds =>
      have h : (ds.all (plainD n) && decide (ds.length ≤ 100000)) = true := h
      rw [Bool.and_eq_true] at h
      have lc := same_items ih h.1 (of_decide_eq_true h.2) (.tuple ds) rfl fun i d hd => ix_tupN hd
      clear ih h
      unfold b__law_same
      walk_at "pd*"
    | list ds =>
      have h : (ds.all (plainD n) && decide (ds.length ≤ 100000)) = true := h
      rw [Bool.and_eq_true] at h
      have lc := same_items ih h.1 (of_decide_eq_true h.2) (.list ds) rfl fun i d hd => ix_listN hd
      clear ih h
      unfold b__law_same
      walk_at "pd*"
/-! ### the cup -/
structure Cup (c : D) : Prop where
  ex : ∃ x y : Int, c = .list [.int x, .int y] ∧ 0 ≤ x ∧ 0 ≤ y ∧ y < 10000000000
theorem d_roll {c : D} (hc : Cup c) {n : Int} (h1 : 0 < n) (h2 : n < 1073741824) : ∃ (c' : D) (r : Int), m__law_roll c [.int n] = some ((false, .int r), c') ∧ Cup c' ∧ 0 ≤ r ∧ r < n := by
  obtain ⟨x, y, rfl, hx, hy, hy2⟩ := hc
  by_cases h0 : 0 < x
  · refine ⟨.list [.int (x / n), .int y], x % n, ?_, ⟨x / n, y, rfl, Int.ediv_nonneg hx (Int.le_of_lt h1), hy, hy2⟩, Int.emod_nonneg _ (by omega), Int.emod_lt_of_pos _ h1⟩
    have k1 : decide (0 < x) = true := decide_eq_true h0
    have m1 : bMod (.int x) (.int n) = some (.sh (.int (x % n))) := PD.mod_int h1
    have m2 : bDiv (.int x) (.int n) = some (.sh (.int (x / n))) := PD.div_int ⟨h1, h2⟩
    clear hx hy hy2 h0 h1 h2
    unfold m__law_roll b__law_roll
    walk_at "pd*"
  · have k1 : decide (0 < x) = false := decide_eq_false h0
    have b1 := Int.emod_nonneg (y * 41119 + 14307) (show (2147483423 : Int) ≠ 0 by decide)
    have b2 := Int.emod_lt_of_pos (y * 41119 + 14307) (show (0 : Int) < 2147483423 by decide)
    have m1 : bMul (.int y) (.int 41119) = some (.sh (.int (y * 41119))) := PD.mul_int (.inr ⟨by decide, by decide⟩)
    have m2 : bMod (.int (y * 41119 + 14307)) (.int 2147483423) = some (.sh (.int ((y * 41119 + 14307) % 2147483423))) := PD.mod_int (by decide)
    generalize (y * 41119 + 14307) % 2147483423 = z at m2 b1 b2
    have m3 : bMul (.int z) (.int (z + 2425)) = some (.sh (.int (z * (z + 2425)))) := PD.mul_int (.inl ⟨by omega, by omega⟩)
    have m4 : bMod (.int (z * (z + 2425))) (.int 2147483587) = some (.sh (.int (z * (z + 2425) % 2147483587))) := PD.mod_int (by decide)
    generalize z * (z + 2425) % 2147483587 = u at m4
    have m5 : bDiv (.int u) (.int 2897) = some (.sh (.int (u / 2897))) := PD.div_int ⟨by decide, by decide⟩
    have m6 : bMod (.int (u / 2897)) (.int n) = some (.sh (.int (u / 2897 % n))) := PD.mod_int h1
    refine ⟨.list [.int x, .int z], u / 2897 % n, ?_, ⟨x, z, rfl, hx, b1, by omega⟩, Int.emod_nonneg _ (by omega), Int.emod_lt_of_pos _ h1⟩
    clear hx hy hy2 h0 h1 h2 b1 b2
    unfold m__law_roll b__law_roll
    walk_at "pd*"
theorem Cup.inner {c : D} (h : Cup c) : inner c = true := by
  obtain ⟨x, y, rfl, _⟩ := h.ex
  rfl
/-! ### the cup's beginning -/
theorem cup_made (c : Int) (hc : 0 ≤ c) : ∃ x y ρ, b__law_cup (En.only 2 1 (.sh (.int c))) = some (.rt (.fr (.list [.int x, .int y])) ρ) ∧ 0 ≤ x ∧ 0 ≤ y ∧ y < 10000000000 := by
  have b1 := Int.emod_nonneg (c * 2797 + 11845) (show (2077516403 : Int) ≠ 0 by decide)
  have b2 := Int.emod_lt_of_pos (c * 2797 + 11845) (show (0 : Int) < 2077516403 by decide)
  have p : bPow (.int 10) (.int 18) = some (.sh (.int 1000000000000000000)) := if_pos (show okPow 10 18 from ⟨by decide, by decide, by decide⟩)
  have m1 : bMul (.int c) (.int 2797) = some (.sh (.int (c * 2797))) := PD.mul_int (.inr ⟨by decide, by decide⟩)
  have m2 : bMod (.int (c * 2797 + 11845)) (.int 2077516403) = some (.sh (.int ((c * 2797 + 11845) % 2077516403))) := PD.mod_int (by decide)
  have m3 : bDiv (.int c) (.int 2033) = some (.sh (.int (c / 2033))) := PD.div_int ⟨by decide, by decide⟩
  generalize (c * 2797 + 11845) % 2077516403 = z at b1 b2 m2
  have w : En.only 2 1 (.sh (.int c)) = ⟨false, [none, some (.sh (.int c))]⟩ := rfl
  rw [w]
  by_cases h : (1000000000000000000 : Int) ≤ c
  · have k1 : decide ((1000000000000000000 : Int) ≤ c) = true := decide_eq_true h
    refine ⟨c / 2033, z + 1863, ⟨false, [none, some (.sh (.int c))]⟩, ?_, Int.ediv_nonneg hc (by decide), by omega, by omega⟩
    clear h hc b1 b2 w
    unfold b__law_cup
    walk_at "pd*"
  · have k1 : decide ((1000000000000000000 : Int) ≤ c) = false := decide_eq_false h
    refine ⟨0, z + 1863, ⟨false, [none, some (.sh (.int c))]⟩, ?_, by decide, by omega, by omega⟩
    clear h hc b1 b2 w
    unfold b__law_cup
    walk_at "pd*"

/-! ### drawn floors -/
theorem prs_of : ∀ {ys : List D} {p : P → Prop}, (∀ y ∈ ys, ∃ q : P, y = prD q ∧ p q) → ∃ l : List P, ys = l.map prD ∧ ∀ q ∈ l, p q
  | [], _, _ => ⟨[], rfl, by simp⟩
  | y :: ys, p, h => by
    obtain ⟨n, rfl, hn⟩ := h y List.mem_cons_self
    obtain ⟨ns, rfl, hp⟩ := prs_of fun z hz => h z (List.mem_cons_of_mem _ hz)
    exact ⟨n :: ns, rfl, fun m hm => by
      rcases List.mem_cons.mp hm with rfl | hm
      · exact hn
      · exact hp m hm⟩
theorem d_law_floor {c : D} (hc : Cup c) {n s : Int} (n0 : 0 < n) (n1 : n ≤ 60) (s0 : 0 < s) (s1 : s ≤ 60) : ∃ (c' : D) (l : List P), m__law_floor c [.int n, .int s] = some ((false, floorD l), c') ∧ Cup c' ∧ SS l ∧ l ≠ [] ∧ (l.length : Int) ≤ n ∧ ∀ p ∈ l, InB s s p := by
  obtain ⟨c1, x, e1, hc1, x0, x1⟩ := d_roll hc (n := n) n0 (by omega)
  obtain ⟨m, hm⟩ : ∃ m : Nat, 1 + x = (m : Int) := ⟨(1 + x).toNat, by omega⟩
  let E : D → En := fun c => ⟨true, [some (.own c), some (.sh (.int n)), some (.sh (.int s)), none, none]⟩
  have fi : dRg1 (dBin bAdd (dC (.int 1)) (dCallC m__law_roll (dCons (dVar 0) (dCons (dVar 1) dNil)))) (E c) = some (rgD 0 m, E c1) := by
    refine rg1_at (n := m) ?_ (by omega)
    have ci := hc1.inner
    simp only [E]
    clear hc hc1 x0 x1 n0 n1 s0 s1
    walk_at "pd*"
  obtain ⟨c2, ys, e2, hc2, hn, hP⟩ := dLc_thr (fi := fun _ => some (rgD 0 m, E c1)) (fe := dTup (dCons (dCallC m__law_roll (dCons (dVar 0) (dCons (dVar 2) dNil))) (dCons (dCallC m__law_roll (dCons (dVar 0) (dCons (dVar 2) dNil))) dNil))) (i := 4) E Cup (fun y => ∃ q : P, y = prD q ∧ InB s s q) (s0 := c1) (ds := rgD 0 m) rfl (by rw [rgD_len]; omega) hc1 (fun d hd c hc => by
    obtain ⟨c3, u, e3, hc3, u0, u1⟩ := d_roll hc (n := s) s0 (by omega)
    obtain ⟨c4, v, e4, hc4, v0, v1⟩ := d_roll hc3 (n := s) s0 (by omega)
    have i3 := hc3.inner
    have i4 := hc4.inner
    refine ⟨c4, .sh (prD (u, v)), prD (u, v), ?_, .inl rfl, hc4, (u, v), rfl, ⟨u0, u1⟩, v0, v1⟩
    rw [prD_mk]
    simp only [E]
    clear hc hc1 hc3 hc4 x0 x1 n0 n1 s0 s1 u0 u1 v0 v1 hd fi e1
    walk_at "pd*")
  obtain ⟨l, rfl, hl⟩ := prs_of hP
  rw [List.length_map, rgD_len] at hn
  have e3 := (dLc_from (tg := gN 4) (ft := dYes) (fe := dTup (dCons (dCallC m__law_roll (dCons (dVar 0) (dCons (dVar 2) dNil))) (dCons (dCallC m__law_roll (dCons (dVar 0) (dCons (dVar 2) dNil))) dNil))) (vs := [4]) fi).trans e2
  have le : PyData.list (l.map prD) = cellsD l := rfl
  rw [le] at e3
  have so := sortSet_cells (l := l) ⟨by omega, fun p hp => by have := hl p hp; unfold InB at this; omega⟩
  refine ⟨c2, sortS l, ?_, hc2, ss_sortS l, fun z => ?_, ?_, fun p hp => hl p (mem_sortS.mp hp)⟩
  · simp only [E] at e3
    clear hc hc1 hc2 x0 x1 n0 n1 s0 s1 fi e1 e2 hP hl hn le
    generalize sortS l = S at so ⊢
    unfold m__law_floor b__law_floor
    walk_at "pd*"
  · have : l.length = 0 := by
      cases l with
      | nil => rfl
      | cons p l =>
        have : p ∈ sortS (p :: l) := mem_sortS.mpr List.mem_cons_self
        rw [z] at this
        cases this
    omega
  · have := nodup_len (ss_sortS l).nodup fun p hp => mem_sortS.mp hp
    omega
/-! ### patterns -/
theorem flo_of {l : List P} {s : Int} (ss : SS l) (ne : l ≠ []) (hl : l.length ≤ 400) (h : ∀ p ∈ l, InB s s p) (hs : s ≤ 60) : Flo l := ⟨ss, ne, hl, fun p hp => by have := h p hp; unfold InB at this; omega⟩
theorem d_law_pattern {c : D} (hc : Cup c) {h w : Nat} (h0 : 1 ≤ h) (h1 : h ≤ 10) (w0 : 1 ≤ w) (w1 : w ≤ 10) : ∃ (c' : D) (p : List P), m__law_pattern c [.int (h : Int), .int (w : Int)] = some ((false, floorD p), c') ∧ Cup c' ∧ Pat p h w ∧ p.length ≤ h * w := by
  have bx := d_law_box (h := h) (w := w) (by omega) (by omega)
  have hw := Nat.mul_le_mul h1 w1
  let E : D → En := fun c => ⟨true, [some (.own c), some (.sh (.int (h : Int))), some (.sh (.int (w : Int))), none, none]⟩
  obtain ⟨c1, L, e1, hc1, sL⟩ := lc_thrT E Cup (i := 4) (fi := dItems (dCall m__law_box (dCons (dVar 1) (dCons (dVar 2) dNil)))) (ft := dCmpT cEq (dCallC m__law_roll (dCons (dVar 0) (dCons (dC (.int 2)) dNil))) (dC (.int 0))) (l := box h w) (s0 := c) (by
      simp only [E]
      clear hc h0 h1 w0 w1 hw
      walk_at "pd*"
      rfl) (by rw [len_box]; omega) hc (fun p hp s hs => by
      obtain ⟨s', x, f1, hs', _⟩ := d_roll hs (n := 2) (by decide) (by decide)
      have ci := hs'.inner
      refine ⟨s', decide (x = 0), ?_, hs'⟩
      simp only [E]
      clear hc hp hs hs' h0 h1 w0 w1 hw bx
      walk_at "pd*")
  simp only [E] at e1
  have ss := (ss_box h w).sublist sL
  have mem : ∀ q ∈ L, InB (h : Int) (w : Int) q := fun q hq => mem_box.mp (sL.subset hq)
  have hlen := sL.length_le
  rw [len_box] at hlen
  by_cases z : L = []
  · obtain ⟨c2, x, e2, hc2, x0, x1⟩ := d_roll hc1 (n := (h : Int)) (by omega) (by omega)
    obtain ⟨c3, y, e3, hc3, y0, y1⟩ := d_roll hc2 (n := (w : Int)) (by omega) (by omega)
    have i2 := hc2.inner
    have i3 := hc3.inner
    refine ⟨c3, [(x, y)], ?_, hc3, ⟨⟨by simp, by simp, by simp, fun q hq => ?_⟩, fun q hq => ?_⟩, ?_⟩
    · have k1 : decide (L = []) = true := decide_eq_true z
      have fd : floorD [(x, y)] = .tuple [.tuple [.int x, .int y]] := rfl
      rw [fd]
      clear hc hc1 hc2 hc3 x0 x1 y0 y1 h0 h1 w0 w1 hw ss mem hlen sL z
      unfold m__law_pattern b__law_pattern
      walk_at "pd*"
    · rw [List.mem_singleton] at hq
      subst hq
      simp only
      omega
    · rw [List.mem_singleton] at hq
      subst hq
      exact ⟨⟨x0, x1⟩, y0, y1⟩
    · have := Nat.mul_le_mul h0 w0
      simpa using this
  · refine ⟨c1, L, ?_, hc1, ⟨⟨ss, z, by omega, fun q hq => by have := mem q hq; unfold InB at this; omega⟩, mem⟩, hlen⟩
    have k1 : decide (L = []) = false := decide_eq_false z
    clear hc hc1 h0 h1 w0 w1 hw ss mem hlen sL z
    unfold m__law_pattern b__law_pattern
    walk_at "pd*"
/-! ### lessened of what is taken greater -/
theorem homes_wv {l p : List P} {h w : Int} (sl : SS l) (hp : ∀ q ∈ p, InB h w q) (np : p ≠ []) {q : P} : (∃ z ∈ Wv l h w p, homeB h w z = q) ↔ q ∈ l := by
  constructor
  · rintro ⟨z, hz, rfl⟩
    exact ((mem_Wv hp).mp hz).1
  · intro hq
    obtain ⟨y, hy⟩ := List.exists_mem_of_ne_nil p np
    obtain ⟨e1, e2⟩ := put_home (p := q) (hp y hy)
    exact ⟨putB h w q y, (mem_Wv hp).mpr (by rw [e1, e2]; exact ⟨hq, hy⟩), e1⟩
theorem count_wv {l p : List P} {h w : Int} (sl : SS l) (sp : SS p) (hp : ∀ q ∈ p, InB h w q) {q : P} (hq : q ∈ l) : ((Wv l h w p).filter fun x => decide (homeB h w x = q)).length = p.length := by
  have nd := (ss_Wv sl.nodup sp.nodup hp).nodup
  have : ((Wv l h w p).filter fun x => decide (homeB h w x = q)).length = (p.map fun y => putB h w q y).length := by
    refine (perm_of_nodup (List.Pairwise.filter _ nd) ?_ fun z => ?_).length_eq
    · refine List.pairwise_map.mpr (List.Pairwise.imp_of_mem (R := (· ≠ ·)) (fun {a b} ha hb k z => ?_) sp.nodup)
      have e1 := (put_home (p := q) (hp a ha)).2
      have e2 := (put_home (p := q) (hp b hb)).2
      rw [z, e2] at e1
      exact k e1.symm
    · rw [List.mem_filter, mem_Wv hp, decide_eq_true_iff, List.mem_map]
      constructor
      · rintro ⟨⟨h1, h2⟩, rfl⟩
        exact ⟨_, h2, home_put z⟩
      · rintro ⟨y, hy, rfl⟩
        obtain ⟨e1, e2⟩ := put_home (p := q) (hp y hy)
        rw [e1, e2]
        exact ⟨⟨hq, hy⟩, rfl⟩
  rw [this, List.length_map]
theorem d_coarse_wv {g : List P} (sg : SS g) {t : Nat} (h0 : 0 < t) (h1 : t < 1000) (hl : (Wv g t t (box t t)).length ≤ 400) : m_coarse_in [floorD (Wv g t t (box t t)), .int (t : Int), .int ((t : Int) * t)] = some (true, cellsD g) := by
  obtain ⟨hs, ok, e⟩ := d_blocks_of hl (h := (t : Int)) (w := (t : Int)) (by omega) (by omega) (by omega) (by omega)
  have bne : box t t ≠ [] := fun z => by
    have := len_box t t
    rw [z] at this
    have : 0 < t * t := Nat.mul_pos h0 h0
    simp at *
    omega
  have hg : ∀ q, q ∈ hs ↔ q ∈ g := fun q => (ok.mem q).trans (homes_wv sg box_in bne)
  have cn : ∀ q ∈ hs, ((Wv g t t (box t t)).filter fun x => decide (homeB t t x = q)).length = t * t := fun q hq => by rw [count_wv sg (ss_box t t) box_in ((hg q).mp hq), len_box]
  have key : sortPr hs = g := sort_eq ok.nd sg hg
  have hh : hs.length ≤ 400 := by
    have : hs.length ≤ ((Wv g t t (box t t)).map (homeB t t)).length := nodup_len ok.nd fun q hq => by
      obtain ⟨p, hp, e⟩ := (ok.mem q).mp hq
      exact List.mem_map.mpr ⟨p, hp, e⟩
    rw [List.length_map] at this
    omega
  have i0 := imm_floor (Wv g t t (box t t))
  generalize Wv g t t (box t t) = W at *
  let G : P → D := fun q => cellsD ((W.filter fun x => decide (homeB t t x = q)).map (remB t t))
  have eG : (tD (hs.map fun q => (prD q, cellsD ((W.filter fun x => decide (homeB t t x = q)).map (remB t t))))) = tD (hs.map fun q => (prD q, G q)) := rfl
  rw [eG] at e
  have lG : ∀ q ∈ hs, bLen (G q) = some (.sh (.int ((t : Int) * t))) := fun q hq => by
    show bLen (cellsD _) = _
    rw [len_cells, List.length_map, cn q hq, Int.natCast_mul]
  clear_value G
  clear eG cn
  have wk : dDict 3 true keysD ⟨false, [some (.sh (floorD W)), some (.sh (.int (t : Int))), some (.sh (.int ((t : Int) * t))), some (.own (tD (hs.map fun h => (prD h, G h)))), none]⟩ = some (hs.map prD, ⟨false, [some (.sh (floorD W)), some (.sh (.int (t : Int))), some (.sh (.int ((t : Int) * t))), some (.sh (tD (hs.map fun h => (prD h, G h)))), none]⟩) := by
    have : hs.map prD = keysD (hs.map fun h => (prD h, G h)) := by
      unfold keysD
      rw [List.map_map]
      rfl
    rw [this]
    rfl
  have lc := lc_cells (i := 4) (fi := fun _ => some (hs.map prD, ⟨false, [some (.sh (floorD W)), some (.sh (.int (t : Int))), some (.sh (.int ((t : Int) * t))), some (.sh (tD (hs.map fun h => (prD h, G h)))), none]⟩))
    (ρ := ⟨false, [some (.sh (floorD W)), some (.sh (.int (t : Int))), some (.sh (.int ((t : Int) * t))), some (.sh (tD (hs.map fun h => (prD h, G h)))), none]⟩)
    (ft := dCmpT cGe (dB1 bLen (dBin bIx (dVar 3) (dVar 4))) (dVar 2)) (fun q => true) rfl (by omega) (fun q hq => by
      have g := ix_tD (tLook_map (g := G) q hq)
      have z := lG q hq
      have k1 : decide ((t : Int) * t ≤ (t : Int) * t) = true := decide_eq_true (Int.le_refl _)
      generalize tD (hs.map fun h => (prD h, G h)) = dd at g ⊢
      generalize G q = dl at g z
      clear h0 h1 hl ok e hg key hh wk hq lG bne
      walk_at "pd*")
  rw [filter_true] at lc
  have lc' := (dLc_from (tg := gN 4) (ft := dCmpT cGe (dB1 bLen (dBin bIx (dVar 3) (dVar 4))) (dVar 2)) (fe := dVar 4) (vs := [4]) wk).trans lc
  have sc := sortA_cells hs
  rw [key] at sc
  clear lc wk key ok hh hl h0 h1 hg lG bne
  generalize tD (hs.map fun h => (prD h, G h)) = dd at e lc'
  unfold m_coarse_in b_coarse_in
  by_cases hi : inner dd = true
  · walk_at "pd*"
  · have hi : inner dd = false := by simpa using hi
    walk_at "pd*"
theorem d_lessened_wv {g : List P} (sg : SS g) {t : Nat} (h0 : 1 ≤ t) (h1 : t ≤ 60) (hW : Flo (Wv g t t (box t t))) : m_lessened [floorD (Wv g t t (box t t)), .int (t : Int)] = some (false, floorD g) := by
  have e1 := d_need_scale hW (t := (t : Int)) (by omega) (by omega)
  have e2 := d_coarse_wv sg (t := t) (by omega) (by omega) hW.len
  have m : bMul (.int (t : Int)) (.int (t : Int)) = some (.sh (.int ((t : Int) * t))) := PD.mul_int (.inr ⟨by omega, by omega⟩)
  have m2 : ∀ i : Int, bMul (.int i) (.int (t : Int)) = some (.sh (.int (i * t))) := fun i => PD.mul_int (.inr ⟨by omega, by omega⟩)
  have i0 := imm_floor (Wv g t t (box t t))
  have i1 := inner_cells g
  have z : decide ((g.length : Int) * t * t = ((Wv g t t (box t t)).length : Int)) = true := decide_eq_true (by rw [len_Wv, len_box, Int.natCast_mul, Int.natCast_mul, Int.mul_assoc])
  generalize Wv g t t (box t t) = W at *
  clear hW h0 h1 sg
  unfold m_lessened b_lessened
  walk_at "pd*"
end PD.K81
set_option Elab.async false
set_option linter.all false
set_option maxRecDepth 100000
set_option maxHeartbeats 4000000
namespace PD.K81
set_option autoImplicit false
open PySem PySem.Spec L2 PD
open PyProof.Rows hiding St
local macro_rules | `(tactic| walk_at "pd") => `(tactic| simp only [dC, dVar, dBin, dCmp_ap, dCmpT, wB, dChainT, dOfT, dTruT, dAndT, dOrT, dNotT, dAndV, dOrV, dNotV, dIf, dNeg, dNil, dCons, gives, give_vr, give_sh, give_fr, get_sh, get_fr, get_vr, En.at, En.with, Sl.d, dTup, dLst, dCut, dNo, dPart, bCut, dNx, dSeq, dIfS, dRet, dRetN, dBk, dCt, dDrop, dStIx, set_l0, set_l1, gN, gCons, gTup, gNil, dSet, dPar, dUnp, settle, puts, En.put, En.set, dItems, dRg1, dRg2, itemsOf, dB1, semOf, slots, endOf, dCall, gets, light_f, light_t, wOf_f, wOf_t, is_nn, is_bn, is_in, is_sn, is_ln, is_tn, is_bb, isn_nn, isn_bn, isn_in, isn_sn, isn_ln, isn_tn, isn_bb, tyD_list, tyD_dict, eq_self, imm_none, imm_bool, imm_int, imm_str, imm_tup, imm_list, imms_nil, imms_cons, inner_list,
  isi_int, isi_bool, isi_tuple, isi_list, isi_str, isi_dict, isInt, isBool, isTup, isLst, isStr, isDic, En.wipe, wipeS, restoreS, dMut, En.mine, En.own, dEnum, dZip, len_floor, len_cells, len_pr, tup_cells, tup_floor, lst_floor, lst_cells, imm_pr, imm_floor, imms_prs, inner_cells, in_floor, in_cells, notIn_floor, notIn_cells, ne_cells_nil, eq_cells_nil, ne_floor_nil, eq_floor_nil, eq_floor, ne_floor, eq_cells, ne_cells, eq_pr, ne_pr, lt_pr, sort_cells, sortA_cells, tyM_list, tyM_cells, dash_list, dash_dict, ix_pr0, ix_pr1, tru_floor, tru_cells, isTup_floor, isTup_pr, isLst_cells, isLst_floor, max_pr, dNewT, dNewK, tru_none, tru_bool, tru_int, tru_list, tru_tup, len_list, len_tup, len_dict, PD.add_int, PD.sub_int, int_int, abs_int, le_int, lt_int, gt_int, ge_int, PD.eq_int, PD.ne_int, PD.ne_bool, PD.eq_bool, PD.eq_nil, ix_tup0, ix_tup1, ix_tup2, ix_tup3, ix_list0, ix_list1, tup_list, tup_tup, lst_list, lst_tup, dCallC, notVr, semC,
  Option.bind_some, Option.map_some, Option.bind_none, Option.map_none, List.getElem?_cons_zero, List.getElem?_cons_succ, List.length_cons, List.length_nil, List.map_cons, List.map_nil, List.replicate, List.append_nil, List.nil_append, List.cons_append, List.set_cons_zero, List.set_cons_succ, List.all_cons, List.all_nil, Nat.sub_self, Nat.reduceAdd, Nat.reduceSub, Nat.reduceLT, Nat.reduceEqDiff, List.mem_cons, List.not_mem_nil,  Nat.reduceLeDiff, if_true, if_false, reduceIte, ite_self, Bool.false_eq_true, Bool.not_true, Bool.not_false, decide_true, decide_false, Option.getD_some, Option.getD_none, Bool.true_and, Bool.and_true, Bool.false_and, Bool.and_false, false_and, and_false, true_and, and_true, not_true_eq_false, not_false_eq_true, or_self, or_false, false_or, List.isEmpty_cons, List.isEmpty_nil, Nat.zero_ne_one])
local macro_rules | `(tactic| walk_at "pd*") => `(tactic| simp only [dC, dVar, dBin, dCmp_ap, dCmpT, wB, dChainT, dOfT, dTruT, dAndT, dOrT, dNotT, dAndV, dOrV, dNotV, dIf, dNeg, dNil, dCons, gives, give_vr, give_sh, give_fr, get_sh, get_fr, get_vr, En.at, En.with, Sl.d, dTup, dLst, dCut, dNo, dPart, bCut, dNx, dSeq, dIfS, dRet, dRetN, dBk, dCt, dDrop, dStIx, set_l0, set_l1, gN, gCons, gTup, gNil, dSet, dPar, dUnp, settle, puts, En.put, En.set, dItems, dRg1, dRg2, itemsOf, dB1, semOf, slots, endOf, dCall, gets, light_f, light_t, wOf_f, wOf_t, is_nn, is_bn, is_in, is_sn, is_ln, is_tn, is_bb, isn_nn, isn_bn, isn_in, isn_sn, isn_ln, isn_tn, isn_bb, tyD_list, tyD_dict, eq_self, imm_none, imm_bool, imm_int, imm_str, imm_tup, imm_list, imms_nil, imms_cons, inner_list,
  isi_int, isi_bool, isi_tuple, isi_list, isi_str, isi_dict, isInt, isBool, isTup, isLst, isStr, isDic, En.wipe, wipeS, restoreS, dMut, En.mine, En.own, dEnum, dZip, len_floor, len_cells, len_pr, tup_cells, tup_floor, lst_floor, lst_cells, imm_pr, imm_floor, imms_prs, inner_cells, in_floor, in_cells, notIn_floor, notIn_cells, ne_cells_nil, eq_cells_nil, ne_floor_nil, eq_floor_nil, eq_floor, ne_floor, eq_cells, ne_cells, eq_pr, ne_pr, lt_pr, sort_cells, sortA_cells, tyM_list, tyM_cells, dash_list, dash_dict, ix_pr0, ix_pr1, tru_floor, tru_cells, isTup_floor, isTup_pr, isLst_cells, isLst_floor, max_pr, dNewT, dNewK, tru_none, tru_bool, tru_int, tru_list, tru_tup, len_list, len_tup, len_dict, PD.add_int, PD.sub_int, int_int, abs_int, le_int, lt_int, gt_int, ge_int, PD.eq_int, PD.ne_int, PD.ne_bool, PD.eq_bool, PD.eq_nil, ix_tup0, ix_tup1, ix_tup2, ix_tup3, ix_list0, ix_list1, tup_list, tup_tup, lst_list, lst_tup, dCallC, notVr, semC,
  Option.bind_some, Option.map_some, Option.bind_none, Option.map_none, List.getElem?_cons_zero, List.getElem?_cons_succ, List.length_cons, List.length_nil, List.map_cons, List.map_nil, List.replicate, List.append_nil, List.nil_append, List.cons_append, List.set_cons_zero, List.set_cons_succ, List.all_cons, List.all_nil, Nat.sub_self, Nat.reduceAdd, Nat.reduceSub, Nat.reduceLT, Nat.reduceEqDiff, List.mem_cons, List.not_mem_nil,  Nat.reduceLeDiff, if_true, if_false, reduceIte, ite_self, Bool.false_eq_true, Bool.not_true, Bool.not_false, decide_true, decide_false, Option.getD_some, Option.getD_none, Bool.true_and, Bool.and_true, Bool.false_and, Bool.and_false, false_and, and_false, true_and, and_true, not_true_eq_false, not_false_eq_true, or_self, or_false, false_or, List.isEmpty_cons, List.isEmpty_nil, Nat.zero_ne_one, *])
/-! ### rows right -/
theorem flo_wv {l p : List P} {h w H W : Int} (fl : Flo l) (hp : Pat p h w) (h0 : 0 < h) (w0 : 0 < w) (hl : ∀ q ∈ l, InB H W q) (hn : l.length * p.length ≤ 400) (b1 : H * h ≤ 60) (b2 : W * w ≤ 60) (H0 : 0 < H) (W0 : 0 < W) : Flo (Wv l h w p) ∧ ∀ q ∈ Wv l h w p, InB (H * h) (W * w) q := by
  have hi := wv_in H0 W0 h0 w0 hl hp.inb
  refine ⟨⟨ss_Wv fl.ss.nodup hp.fl.ss.nodup hp.inb, fun z => ?_, by rw [len_Wv]; exact hn, fun q hq => by have := hi q hq; unfold InB at this; omega⟩, hi⟩
  have e := len_Wv (l := l) (p := p) (h := h) (w := w)
  rw [z] at e
  have := Nat.mul_pos fl.pos hp.fl.pos
  simp only [List.length_nil] at e
  omega
def three : List P := [(0, 0), (0, 1), (1, 0)]
def two2 : List P := [(0, 0), (1, 1)]
def two1 : List P := [(0, 0), (0, 1)]
theorem flo_three : Flo three := ⟨by decide, by decide, by decide, by decide⟩
theorem flo_two1 : Flo two1 := ⟨by decide, by decide, by decide, by decide⟩
theorem pat_three : Pat three 2 2 := ⟨flo_three, by unfold InB; decide⟩
theorem pat_two2 : Pat two2 2 2 := ⟨⟨by decide, by decide, by decide, by decide⟩, by unfold InB; decide⟩
theorem d_rows_right : m__law_rows_right [] = some (false, .bool true) := by
  have w1 := flo_wv flo_three pat_three (by decide) (by decide) pat_three.inb (by decide) (by decide) (by decide) (by decide) (by decide)
  have w2 := flo_wv w1.1 pat_three (by decide) (by decide) w1.2 (by rw [len_Wv]; decide) (by decide) (by decide) (by decide) (by decide)
  have w3 := flo_wv w2.1 pat_three (by decide) (by decide) w2.2 (by rw [len_Wv, len_Wv]; decide) (by decide) (by decide) (by decide) (by decide)
  have v1 := flo_wv flo_three pat_two2 (by decide) (by decide) pat_three.inb (by decide) (by decide) (by decide) (by decide) (by decide)
  have a1 := d_woven_times (l := three) (h := 2) (w := 2) (by decide) (by decide) (by decide) (by decide) pat_three (k := 2) (by decide) (by decide) w2.1
  have a2 := d_woven_times (l := three) (h := 2) (w := 2) (by decide) (by decide) (by decide) (by decide) pat_three (k := 3) (by decide) (by decide) w3.1
  have a3 := d_woven flo_three (by decide) (by decide) (by decide) (by decide) pat_three (by decide) w1.1
  have a4 := d_woven w1.1 (by decide) (by decide) (by decide) (by decide) pat_three (by rw [len_Wv]; decide) w2.1
  have a5 := d_woven flo_three (by decide) (by decide) (by decide) (by decide) pat_two2 (by decide) v1.1
  have a6 := d_unwoven flo_three (h := 2) (w := 1) (by decide) (by decide) (by decide) (by decide)
  have a7 := d_weaves_of flo_two1 (R := 1) (C := 2) (by decide) (by decide) (by decide) (by decide)
  have c6 : unwB three 2 1 = none := by decide +kernel
  have c7 : wvs two1 1 2 = [(1, 2)] := by decide +kernel
  have c5 : Wv three 2 2 two2 = [(0, 0), (0, 2), (1, 1), (1, 3), (2, 0), (3, 1)] := by decide +kernel
  have l2 := len_Wp three 2 2 3
  have e81 : three.length ^ (3 + 1) = 81 := by decide
  rw [e81] at l2
  have b2 := len_floor (Wp three 2 2 3)
  rw [l2] at b2
  unfold unwD at a6
  rw [c6] at a6
  rw [c7] at a7
  rw [c5] at a5
  have a1 : m_woven_times [floorD three, .int 2, .int 2, .int 3] = some (false, floorD (Wv (Wv three 2 2 three) 2 2 three)) := a1
  have a2 : m_woven_times [floorD three, .int 2, .int 2, .int 4] = some (false, floorD (Wp three 2 2 3)) := a2
  have ne := ne_floor (Wv (Wv three 2 2 three) 2 2 three) (Wv (Wv three 2 2 three) 2 2 three)
  rw [decide_eq_true rfl] at ne
  have sm := same_refl 8 (.tuple [floorD [(0, 0), (0, 2), (1, 1), (1, 3), (2, 0), (3, 1)], .none, floorD [(1, 2)], .int 81]) (by decide +kernel)
  have b2 : bLen (floorD (Wp three 2 2 3)) = some (.sh (.int 81)) := b2
  generalize Wv (Wv three 2 2 three) 2 2 three = V2 at a1 a4 ne
  generalize Wv three 2 2 three = V1 at a3 a4
  generalize Wp three 2 2 3 = V3 at a2 b2
  clear w1 w2 w3 v1 c5 c6 c7 l2 e81
  have f3 : floorD three = .tuple [.tuple [.int 0, .int 0], .tuple [.int 0, .int 1], .tuple [.int 1, .int 0]] := rfl
  have f2 : floorD two2 = .tuple [.tuple [.int 0, .int 0], .tuple [.int 1, .int 1]] := rfl
  have f1 : floorD two1 = .tuple [.tuple [.int 0, .int 0], .tuple [.int 0, .int 1]] := rfl
  have g1 : floorD [(0, 0), (0, 2), (1, 1), (1, 3), (2, 0), (3, 1)] = .tuple [.tuple [.int 0, .int 0], .tuple [.int 0, .int 2], .tuple [.int 1, .int 1], .tuple [.int 1, .int 3], .tuple [.int 2, .int 0], .tuple [.int 3, .int 1]] := rfl
  have g2 : floorD [(1, 2)] = .tuple [.tuple [.int 1, .int 2]] := rfl
  rw [f3] at a1 a2 a3 a4 a5 a6
  rw [f2] at a5
  rw [f1] at a7
  rw [g1] at a5 sm
  rw [g2] at a7 sm
  clear f3 f2 f1 g1 g2
  have i1 := imm_floor V1
  unfold m__law_rows_right b__law_rows_right
  walk_at "pd*"
end PD.K81
set_option Elab.async false
set_option linter.all false
set_option maxRecDepth 100000
set_option maxHeartbeats 4000000
namespace PD.K81
set_option autoImplicit false
open PySem PySem.Spec L2 PD
open PyProof.Rows hiding St
local macro_rules | `(tactic| walk_at "pd") => `(tactic| simp only [dC, dVar, dBin, dCmp_ap, dCmpT, wB, dChainT, dOfT, dTruT, dAndT, dOrT, dNotT, dAndV, dOrV, dNotV, dIf, dNeg, dNil, dCons, gives, give_vr, give_sh, give_fr, get_sh, get_fr, get_vr, En.at, En.with, Sl.d, dTup, dLst, dCut, dNo, dPart, bCut, dNx, dSeq, dIfS, dRet, dRetN, dBk, dCt, dDrop, dStIx, set_l0, set_l1, gN, gCons, gTup, gNil, dSet, dPar, dUnp, settle, puts, En.put, En.set, dItems, dRg1, dRg2, itemsOf, dB1, semOf, slots, endOf, dCall, gets, light_f, light_t, wOf_f, wOf_t, is_nn, is_bn, is_in, is_sn, is_ln, is_tn, is_bb, isn_nn, isn_bn, isn_in, isn_sn, isn_ln, isn_tn, isn_bb, tyD_list, tyD_dict, eq_self, imm_none, imm_bool, imm_int, imm_str, imm_tup, imm_list, imms_nil, imms_cons, inner_list,
  isi_int, isi_bool, isi_tuple, isi_list, isi_str, isi_dict, isInt, isBool, isTup, isLst, isStr, isDic, En.wipe, wipeS, restoreS, dMut, En.mine, En.own, dEnum, dZip, len_floor, len_cells, len_pr, tup_cells, tup_floor, lst_floor, lst_cells, imm_pr, imm_floor, imms_prs, inner_cells, in_floor, in_cells, notIn_floor, notIn_cells, ne_cells_nil, eq_cells_nil, ne_floor_nil, eq_floor_nil, eq_floor, ne_floor, eq_cells, ne_cells, eq_pr, ne_pr, lt_pr, sort_cells, sortA_cells, tyM_list, tyM_cells, dash_list, dash_dict, ix_pr0, ix_pr1, tru_floor, tru_cells, isTup_floor, isTup_pr, isLst_cells, isLst_floor, max_pr, dNewT, dNewK, tru_none, tru_bool, tru_int, tru_list, tru_tup, len_list, len_tup, len_dict, PD.add_int, PD.sub_int, int_int, abs_int, le_int, lt_int, gt_int, ge_int, PD.eq_int, PD.ne_int, PD.ne_bool, PD.eq_bool, PD.eq_nil, ix_tup0, ix_tup1, ix_tup2, ix_tup3, ix_list0, ix_list1, tup_list, tup_tup, lst_list, lst_tup, dCallC, notVr, semC,
  Option.bind_some, Option.map_some, Option.bind_none, Option.map_none, List.getElem?_cons_zero, List.getElem?_cons_succ, List.length_cons, List.length_nil, List.map_cons, List.map_nil, List.replicate, List.append_nil, List.nil_append, List.cons_append, List.set_cons_zero, List.set_cons_succ, List.all_cons, List.all_nil, Nat.sub_self, Nat.reduceAdd, Nat.reduceSub, Nat.reduceLT, Nat.reduceEqDiff, List.mem_cons, List.not_mem_nil,  Nat.reduceLeDiff, if_true, if_false, reduceIte, ite_self, Bool.false_eq_true, Bool.not_true, Bool.not_false, decide_true, decide_false, Option.getD_some, Option.getD_none, Bool.true_and, Bool.and_true, Bool.false_and, Bool.and_false, false_and, and_false, true_and, and_true, not_true_eq_false, not_false_eq_true, or_self, or_false, false_or, List.isEmpty_cons, List.isEmpty_nil, Nat.zero_ne_one])
local macro_rules | `(tactic| walk_at "pd*") => `(tactic| simp only [dC, dVar, dBin, dCmp_ap, dCmpT, wB, dChainT, dOfT, dTruT, dAndT, dOrT, dNotT, dAndV, dOrV, dNotV, dIf, dNeg, dNil, dCons, gives, give_vr, give_sh, give_fr, get_sh, get_fr, get_vr, En.at, En.with, Sl.d, dTup, dLst, dCut, dNo, dPart, bCut, dNx, dSeq, dIfS, dRet, dRetN, dBk, dCt, dDrop, dStIx, set_l0, set_l1, gN, gCons, gTup, gNil, dSet, dPar, dUnp, settle, puts, En.put, En.set, dItems, dRg1, dRg2, itemsOf, dB1, semOf, slots, endOf, dCall, gets, light_f, light_t, wOf_f, wOf_t, is_nn, is_bn, is_in, is_sn, is_ln, is_tn, is_bb, isn_nn, isn_bn, isn_in, isn_sn, isn_ln, isn_tn, isn_bb, tyD_list, tyD_dict, eq_self, imm_none, imm_bool, imm_int, imm_str, imm_tup, imm_list, imms_nil, imms_cons, inner_list,
  isi_int, isi_bool, isi_tuple, isi_list, isi_str, isi_dict, isInt, isBool, isTup, isLst, isStr, isDic, En.wipe, wipeS, restoreS, dMut, En.mine, En.own, dEnum, dZip, len_floor, len_cells, len_pr, tup_cells, tup_floor, lst_floor, lst_cells, imm_pr, imm_floor, imms_prs, inner_cells, in_floor, in_cells, notIn_floor, notIn_cells, ne_cells_nil, eq_cells_nil, ne_floor_nil, eq_floor_nil, eq_floor, ne_floor, eq_cells, ne_cells, eq_pr, ne_pr, lt_pr, sort_cells, sortA_cells, tyM_list, tyM_cells, dash_list, dash_dict, ix_pr0, ix_pr1, tru_floor, tru_cells, isTup_floor, isTup_pr, isLst_cells, isLst_floor, max_pr, dNewT, dNewK, tru_none, tru_bool, tru_int, tru_list, tru_tup, len_list, len_tup, len_dict, PD.add_int, PD.sub_int, int_int, abs_int, le_int, lt_int, gt_int, ge_int, PD.eq_int, PD.ne_int, PD.ne_bool, PD.eq_bool, PD.eq_nil, ix_tup0, ix_tup1, ix_tup2, ix_tup3, ix_list0, ix_list1, tup_list, tup_tup, lst_list, lst_tup, dCallC, notVr, semC,
  Option.bind_some, Option.map_some, Option.bind_none, Option.map_none, List.getElem?_cons_zero, List.getElem?_cons_succ, List.length_cons, List.length_nil, List.map_cons, List.map_nil, List.replicate, List.append_nil, List.nil_append, List.cons_append, List.set_cons_zero, List.set_cons_succ, List.all_cons, List.all_nil, Nat.sub_self, Nat.reduceAdd, Nat.reduceSub, Nat.reduceLT, Nat.reduceEqDiff, List.mem_cons, List.not_mem_nil,  Nat.reduceLeDiff, if_true, if_false, reduceIte, ite_self, Bool.false_eq_true, Bool.not_true, Bool.not_false, decide_true, decide_false, Option.getD_some, Option.getD_none, Bool.true_and, Bool.and_true, Bool.false_and, Bool.and_false, false_and, and_false, true_and, and_true, not_true_eq_false, not_false_eq_true, or_self, or_false, false_or, List.isEmpty_cons, List.isEmpty_nil, Nat.zero_ne_one, *])
theorem plain_floor (l : List P) (h : l.length ≤ 100000) (n : Nat) : plainD (n + 3) (floorD l) = true := by
  show ((l.map prD).all (plainD (n + 2)) && decide ((l.map prD).length ≤ 100000)) = true
  rw [List.length_map, decide_eq_true h, Bool.and_true, List.all_eq_true]
  intro d hd
  obtain ⟨p, _, rfl⟩ := List.mem_map.mp hd
  rfl
/-! ### _law_three_right -/
theorem map_shift {l : List P} : l.map (fun q => (q.1, q.2 + 1)) = l → l = [] := by
  intro h
  cases l with
  | nil => rfl
  | cons p l =>
    rw [List.map_cons] at h
    injection h with h1 _
    have := congrArg (·.2) h1
    simp only at this
    omega
theorem ss_shift {l : List P} (h : SS l) : SS (l.map fun q => (q.1, q.2 + 1)) := by
  refine List.pairwise_map.mpr (List.Pairwise.imp (R := ltP) (fun {a b} k => ?_) h)
  unfold ltP at *
  simp only
  omega
theorem cut_last (xs : List D) : cutD xs none (some (-1)) = xs.dropLast := by
  unfold cutD
  have h1 : HT.sIx xs.length 0 none = 0 := rfl
  have h2 : HT.sIx xs.length xs.length (some (-1)) = xs.length - 1 := by
    show (if (-1 : Int) < 0 then ((-1 : Int) + (xs.length : Int)).toNat else min (-1 : Int).toNat xs.length) = _
    rw [if_pos (by decide)]
    omega
  rw [h1, h2, List.drop_zero, Nat.sub_zero, List.dropLast_eq_take]
structure Three (l p o : List P) (h w d r : Nat) : Prop where
  bh : 1 ≤ h ∧ h ≤ 3
  bw : 1 ≤ w ∧ w ≤ 3
  bd : 1 ≤ d ∧ d ≤ 2
  br : 1 ≤ r ∧ r ≤ 2
  fl : Flo l
  il : ∀ q ∈ l, InB 4 4 q
  ll : l.length ≤ 6
  pp : Pat p h w
  lp : p.length ≤ 9
  po : Pat o d r
  lo : o.length ≤ 4
section
variable {l p o : List P} {h w d r : Nat} (T : Three l p o h w d r)
include T
theorem Three.F : Flo (Wv l h w p) ∧ ∀ q ∈ Wv l h w p, InB (4 * h) (4 * w) q := by
  have := T.bh; have := T.bw
  refine flo_wv T.fl T.pp (by omega) (by omega) T.il ?_ (by omega) (by omega) (by decide) (by decide)
  exact Nat.le_trans (Nat.mul_le_mul T.ll T.lp) (by decide)
theorem Three.B : Flo (Wv p d r o) ∧ ∀ q ∈ Wv p d r o, InB ((h : Int) * d) ((w : Int) * r) q := by
  have := T.bh; have := T.bw; have := T.bd; have := T.br
  have e1 := Nat.mul_le_mul T.bh.2 T.bd.2
  have e2 := Nat.mul_le_mul T.bw.2 T.br.2
  have c1 : ((h * d : Nat) : Int) = (h : Int) * d := Int.natCast_mul _ _
  have c2 : ((w * r : Nat) : Int) = (w : Int) * r := Int.natCast_mul _ _
  refine flo_wv T.pp.fl T.po (by omega) (by omega) T.pp.inb ?_ (by omega) (by omega) (by omega) (by omega)
  exact Nat.le_trans (Nat.mul_le_mul T.lp T.lo) (by decide)
theorem Three.X : Flo (Wv (Wv l h w p) d r o) ∧ ∀ q ∈ Wv (Wv l h w p) d r o, InB (4 * h * d) (4 * w * r) q := by
  have := T.bh; have := T.bw; have := T.bd; have := T.br
  have e1 := Nat.mul_le_mul (Nat.mul_le_mul_left 4 T.bh.2) T.bd.2
  have e2 := Nat.mul_le_mul (Nat.mul_le_mul_left 4 T.bw.2) T.br.2
  have c1 : ((4 * h * d : Nat) : Int) = 4 * (h : Int) * d := by rw [Int.natCast_mul, Int.natCast_mul]; rfl
  have c2 : ((4 * w * r : Nat) : Int) = 4 * (w : Int) * r := by rw [Int.natCast_mul, Int.natCast_mul]; rfl
  refine flo_wv T.F.1 T.po (by omega) (by omega) T.F.2 ?_ (by omega) (by omega) (by omega) (by omega)
  rw [len_Wv]
  exact Nat.le_trans (Nat.mul_le_mul (Nat.mul_le_mul T.ll T.lp) T.lo) (by decide)
theorem Three.assoc : Wv (Wv l h w p) d r o = Wv l ((h : Int) * d) ((w : Int) * r) (Wv p d r o) := by
  have := T.bh; have := T.bw; have := T.bd; have := T.br
  exact wv_assoc (by omega) (by omega) (by omega) (by omega) T.fl.ss.nodup T.pp.fl.ss.nodup T.po.fl.ss.nodup T.pp.inb T.po.inb
theorem Three.patB : Pat (Wv p d r o) ((h : Int) * d) ((w : Int) * r) := ⟨T.B.1, T.B.2⟩
theorem Three.bounds : (1 ≤ (h : Int) * d ∧ (h : Int) * d ≤ 6) ∧ 1 ≤ (w : Int) * r ∧ (w : Int) * r ≤ 6 := by
  have e1 := Nat.mul_le_mul T.bh.2 T.bd.2
  have e2 := Nat.mul_le_mul T.bw.2 T.br.2
  have e3 := Nat.mul_le_mul T.bh.1 T.bd.1
  have e4 := Nat.mul_le_mul T.bw.1 T.br.1
  have c1 : ((h * d : Nat) : Int) = (h : Int) * d := Int.natCast_mul _ _
  have c2 : ((w * r : Nat) : Int) = (w : Int) * r := Int.natCast_mul _ _
  omega
theorem Three.unw : unwB (Wv (Wv l h w p) d r o) d r = some (Wv l h w p, o) ∧ unwB (Wv (Wv l h w p) d r o) ((h : Int) * d) ((w : Int) * r) = some (l, Wv p d r o) ∧ unwB (Wv l h w p) h w = some (l, p) := by
  have := T.bh; have := T.bw; have := T.bd; have := T.br
  have b := T.bounds
  refine ⟨unw_wv (by omega) (by omega) T.F.1.ss T.po.fl.ss T.po.inb T.F.1.ne T.po.fl.ne, ?_, unw_wv (by omega) (by omega) T.fl.ss T.pp.fl.ss T.pp.inb T.fl.ne T.pp.fl.ne⟩
  rw [T.assoc]
  exact unw_wv (by omega) (by omega) T.fl.ss T.B.1.ss T.B.2 T.fl.ne T.B.1.ne
theorem Three.side : Flo ((Wv l h w p).map fun q => (q.1, q.2 + 1)) ∧ Wv ((Wv l h w p).map fun q => (q.1, q.2 + 1)) d r o ≠ Wv (Wv l h w p) d r o := by
  have := T.bh; have := T.bw; have := T.bd; have := T.br
  have fs : Flo ((Wv l h w p).map fun q => (q.1, q.2 + 1)) := ⟨ss_shift T.F.1.ss, by simpa using T.F.1.ne, by rw [List.length_map]; exact T.F.1.len, fun q hq => by
    obtain ⟨z, hz, rfl⟩ := List.mem_map.mp hq
    have := T.F.2 z hz
    unfold InB at this
    simp only
    omega⟩
  refine ⟨fs, fun e => ?_⟩
  have e1 := unw_wv (h := (d : Int)) (w := (r : Int)) (by omega) (by omega) fs.ss T.po.fl.ss T.po.inb fs.ne T.po.fl.ne
  rw [e, T.unw.1] at e1
  have e2 := congrArg (·.1) (Option.some.inj e1)
  exact T.F.1.ne (map_shift e2.symm)
theorem Three.bad : Flo (o.dropLast ++ [(59, 59)]) ∧ inAll (o.dropLast ++ [(59, 59)]) d r = false := by
  have := T.bd; have := T.br
  refine ⟨⟨List.pairwise_append.mpr ⟨T.po.fl.ss.sublist (List.dropLast_sublist _), List.pairwise_singleton _ _, fun a ha b hb => ?_⟩, by simp, ?_, fun q hq => ?_⟩, ?_⟩
  · rw [List.mem_singleton] at hb
    subst hb
    have := T.po.inb a (List.dropLast_subset _ ha)
    unfold InB at this
    unfold ltP
    simp only
    omega
  · have := T.lo
    simp only [List.length_append, List.length_dropLast, List.length_singleton]
    omega
  · rcases List.mem_append.mp hq with hq | hq
    · exact T.po.fl.rng q (List.dropLast_subset _ hq)
    · rw [List.mem_singleton] at hq
      subst hq
      simp only
      omega
  · unfold inAll
    rw [List.all_append]
    have : ([(59, 59)] : List P).all (fun q => decide (q.1 < (d : Int)) && decide (q.2 < (r : Int))) = false := by
      simp only [List.all_cons, List.all_nil, Bool.and_true]
      rw [decide_eq_false (by omega)]
      rfl
    rw [this, Bool.and_false]
end
/-- whether a size is among those told -/
theorem size_due {X : List P} {R C : Nat} (hR : rmx X + 1 = (R : Int)) (hC : cmx X + 1 = (C : Int)) {a b : Int} (ha : 1 ≤ a) (hb : 1 ≤ b) (hu : (unwB X a b).isSome = true) :
    decide ((a, b) ∈ wvs X R C) = (!decide (((a, b) : P) = (1, 1)) && (decide (a ≤ rmx X + 1) && decide (b ≤ cmx X + 1))) := by
  have : ((a, b) ∈ wvs X R C) ↔ (¬ (((a, b) : P) = (1, 1)) ∧ a ≤ rmx X + 1 ∧ b ≤ cmx X + 1) := by
    rw [mem_wvs]
    unfold isW
    rw [hu, Bool.and_true, Bool.not_eq_true', decide_eq_false_iff_not, hR, hC]
    simp only
    constructor
    · rintro ⟨h1, h2, h3⟩
      exact ⟨h3, h1.2, h2.2⟩
    · rintro ⟨h1, h2, h3⟩
      exact ⟨⟨ha, h2⟩, ⟨hb, h3⟩, h1⟩
  by_cases z : ((a, b) ∈ wvs X R C)
  · obtain ⟨h1, h2, h3⟩ := this.mp z
    rw [decide_eq_true z, decide_eq_false h1, decide_eq_true h2, decide_eq_true h3]
    rfl
  · rw [decide_eq_false z]
    by_cases z1 : ((a, b) : P) = (1, 1)
    · rw [decide_eq_true z1]; rfl
    · by_cases z2 : a ≤ rmx X + 1
      · by_cases z3 : b ≤ cmx X + 1
        · exact absurd (this.mpr ⟨z1, z2, z3⟩) z
        · rw [decide_eq_false z3, Bool.and_false, Bool.and_false]
      · rw [decide_eq_false z2, Bool.false_and, Bool.and_false]
theorem d_size {X l p o F B : List P} {c : D} {s2 s3 s4 s5 s11 s12 : Option Sl} {R C : Nat} (hR : rmx X + 1 = (R : Int)) (hC : cmx X + 1 = (C : Int)) {a b : Int} (ha : 1 ≤ a) (hb : 1 ≤ b) (hu : (unwB X a b).isSome = true) (hw : m_weaves_of [floorD X] = some (false, floorD (wvs X R C))) :
    turnOf (gN 16) l1__law_three_right [16, 17] (.tuple [.int a, .int b]) ⟨true, [some (.own c), some (.sh (floorD l)), s2, s3, s4, s5, some (.sh (floorD p)), some (.sh (floorD o)), some (.sh (floorD F)), some (.sh (floorD B)), some (.sh (floorD X)), s11, s12, none, none, some (.sh (.tuple [.int (rmx X + 1), .int (cmx X + 1)])), none, none]⟩ =
      some ⟨true, [some (.own c), some (.sh (floorD l)), s2, s3, s4, s5, some (.sh (floorD p)), some (.sh (floorD o)), some (.sh (floorD F)), some (.sh (floorD B)), some (.sh (floorD X)), s11, s12, none, none, some (.sh (.tuple [.int (rmx X + 1), .int (cmx X + 1)])), none, none]⟩ := by
  have du := size_due hR hC ha hb hu
  have nn : cNe (.tuple [.int a, .int b]) (.tuple [.int 1, .int 1]) = some (!decide (((a, b) : P) = (1, 1))) := ne_pr (a, b) (1, 1)
  have ii : cIn (.tuple [.int a, .int b]) (floorD (wvs X R C)) = some (decide ((a, b) ∈ wvs X R C)) := in_floor (a, b) _
  rw [du] at ii
  have i0 := imm_floor X
  refine turn_gN (ρ2 := ⟨true, [some (.own c), some (.sh (floorD l)), s2, s3, s4, s5, some (.sh (floorD p)), some (.sh (floorD o)), some (.sh (floorD F)), some (.sh (floorD B)), some (.sh (floorD X)), s11, s12, none, none, some (.sh (.tuple [.int (rmx X + 1), .int (cmx X + 1)])), some (.sh (.tuple [.int a, .int b])), some (.sh (.bool (!decide (((a, b) : P) = (1, 1)) && (decide (a ≤ rmx X + 1) && decide (b ≤ cmx X + 1)))))]⟩) ?_ rfl
  generalize floorD (wvs X R C) = WW at hw ii
  clear du hR hC ha hb hu
  unfold l1__law_three_right
  cases k1 : decide (((a, b) : P) = (1, 1))
  · rw [k1] at nn ii
    cases k2 : decide (a ≤ rmx X + 1)
    · rw [k2] at ii
      walk_at "pd*"
    · rw [k2] at ii
      walk_at "pd*"
  · rw [k1] at nn ii
    walk_at "pd*"
abbrev eT (c : D) (l : List P) (s2 s3 s4 s5 s6 s7 s8 s9 s10 s11 s12 s15 : Option Sl) : En := ⟨true, [some (.own c), some (.sh (floorD l)), s2, s3, s4, s5, s6, s7, s8, s9, s10, s11, s12, none, none, s15, none, none]⟩
abbrev iS (n : Int) : Option Sl := some (.sh (.int n))
abbrev fS (l : List P) : Option Sl := some (.sh (floorD l))
theorem d_three_right {c : D} (hc : Cup c) {l : List P} (fl : Flo l) (il : ∀ q ∈ l, InB 4 4 q) (ll : l.length ≤ 6) : ∃ c', m__law_three_right c [floorD l] = some ((false, .bool true), c') ∧ Cup c' := by
  obtain ⟨c1, x, e1, hc1, x0, x1⟩ := d_roll hc (n := 3) (by decide) (by decide)
  obtain ⟨c2, y, e2, hc2, y0, y1⟩ := d_roll hc1 (n := 3) (by decide) (by decide)
  obtain ⟨c3, z, e3, hc3, z0, z1'⟩ := d_roll hc2 (n := 2) (by decide) (by decide)
  obtain ⟨c4, u, e4, hc4, u0, u1⟩ := d_roll hc3 (n := 2) (by decide) (by decide)
  obtain ⟨h, eh⟩ : ∃ h : Nat, 1 + x = (h : Int) := ⟨(1 + x).toNat, by omega⟩
  obtain ⟨w, ew⟩ : ∃ w : Nat, 1 + y = (w : Int) := ⟨(1 + y).toNat, by omega⟩
  obtain ⟨d, ed⟩ : ∃ d : Nat, 1 + z = (d : Int) := ⟨(1 + z).toNat, by omega⟩
  obtain ⟨r, er⟩ : ∃ r : Nat, 1 + u = (r : Int) := ⟨(1 + u).toNat, by omega⟩
  obtain ⟨c5, p, e5, hc5, pp, lp⟩ := d_law_pattern hc4 (h := h) (w := w) (by omega) (by omega) (by omega) (by omega)
  obtain ⟨c6, o, e6, hc6, po, lo⟩ := d_law_pattern hc5 (h := d) (w := r) (by omega) (by omega) (by omega) (by omega)
  have bh : 1 ≤ h ∧ h ≤ 3 := by omega
  have bw : 1 ≤ w ∧ w ≤ 3 := by omega
  have bd : 1 ≤ d ∧ d ≤ 2 := by omega
  have br : 1 ≤ r ∧ r ≤ 2 := by omega
  have T : Three l p o h w d r := ⟨bh, bw, bd, br, fl, il, ll, pp, Nat.le_trans lp (Nat.mul_le_mul bh.2 bw.2), po, Nat.le_trans lo (Nat.mul_le_mul bd.2 br.2)⟩
  have bb := T.bounds
  have lF : l.length * p.length ≤ 54 := Nat.mul_le_mul ll T.lp
  have lB : p.length * o.length ≤ 36 := Nat.mul_le_mul T.lp T.lo
  have lX : l.length * p.length * o.length ≤ 216 := Nat.mul_le_mul lF T.lo
  have a1 := d_woven fl (h := (h : Int)) (w := (w : Int)) (by omega) (by omega) (by omega) (by omega) pp (by omega) T.F.1
  have a2 := d_woven pp.fl (h := (d : Int)) (w := (r : Int)) (by omega) (by omega) (by omega) (by omega) po (by omega) T.B.1
  have a3 := d_woven T.F.1 (h := (d : Int)) (w := (r : Int)) (by omega) (by omega) (by omega) (by omega) po (by rw [len_Wv]; omega) T.X.1
  have a4 := d_woven fl (h := (h : Int) * d) (w := (w : Int) * r) (by omega) (by omega) (by omega) (by omega) T.patB (by rw [len_Wv, ← Nat.mul_assoc]; omega) (by rw [← T.assoc]; exact T.X.1)
  rw [← T.assoc] at a4
  have u1' := d_unwoven T.X.1 (h := (d : Int)) (w := (r : Int)) (by omega) (by omega) (by omega) (by omega)
  have u2' := d_unwoven T.X.1 (h := (h : Int) * d) (w := (w : Int) * r) (by omega) (by omega) (by omega) (by omega)
  have u3' := d_unwoven T.F.1 (h := (h : Int)) (w := (w : Int)) (by omega) (by omega) (by omega) (by omega)
  unfold unwD at u1' u2' u3'
  rw [T.unw.1] at u1'
  rw [T.unw.2.1] at u2'
  rw [T.unw.2.2] at u3'
  have inO : inAll o (d : Int) (r : Int) = true := by
    unfold inAll
    rw [List.all_eq_true]
    intro q hq
    have := po.inb q hq
    unfold InB at this
    rw [decide_eq_true this.1.2, decide_eq_true this.2.2]
    rfl
  have inB' : inAll (Wv p d r o) ((h : Int) * d) ((w : Int) * r) = true := by
    unfold inAll
    rw [List.all_eq_true]
    intro q hq
    have := T.B.2 q hq
    unfold InB at this
    rw [decide_eq_true this.1.2, decide_eq_true this.2.2]
    rfl
  have w1 := d_is_woven T.X.1 T.F.1 po.fl (h := (d : Int)) (w := (r : Int)) (by omega) (by omega) (by omega) (by omega)
  rw [inO, decide_eq_true rfl, decide_eq_true (by rw [len_Wv (l := Wv l h w p), Int.natCast_mul])] at w1
  have w2 := d_is_woven T.X.1 fl T.B.1 (h := (h : Int) * d) (w := (w : Int) * r) (by omega) (by omega) (by omega) (by omega)
  rw [inB', decide_eq_true T.assoc.symm, decide_eq_true (by rw [T.assoc, len_Wv (l := l), Int.natCast_mul])] at w2
  have w3 := d_is_woven T.X.1 T.side.1 po.fl (h := (d : Int)) (w := (r : Int)) (by omega) (by omega) (by omega) (by omega)
  rw [decide_eq_false T.side.2, Bool.and_false, Bool.and_false] at w3
  have w4 := d_is_woven T.X.1 T.F.1 T.bad.1 (h := (d : Int)) (w := (r : Int)) (by omega) (by omega) (by omega) (by omega)
  rw [T.bad.2, Bool.false_and] at w4
  obtain ⟨R, hR⟩ : ∃ R : Nat, rmx (Wv (Wv l h w p) d r o) + 1 = (R : Int) := by
    obtain ⟨q, hq, e⟩ := rmx_mem T.X.1.ne
    have := T.X.1.rng q hq
    exact ⟨(rmx (Wv (Wv l h w p) d r o) + 1).toNat, by omega⟩
  obtain ⟨C, hC⟩ : ∃ C : Nat, cmx (Wv (Wv l h w p) d r o) + 1 = (C : Int) := by
    obtain ⟨q, hq, e⟩ := cmx_mem T.X.1.ne
    have := T.X.1.rng q hq
    exact ⟨(cmx (Wv (Wv l h w p) d r o) + 1).toNat, by omega⟩
  have rb : rmx (Wv (Wv l h w p) d r o) ≤ 59 := by
    obtain ⟨q, hq, e⟩ := rmx_mem T.X.1.ne
    have := T.X.1.rng q hq
    omega
  have cb : cmx (Wv (Wv l h w p) d r o) ≤ 59 := by
    obtain ⟨q, hq, e⟩ := cmx_mem T.X.1.ne
    have := T.X.1.rng q hq
    omega
  have wv := d_weaves_of T.X.1 hR hC (by omega) (by omega)
  have z1 := d_size (l := l) (p := p) (o := o) (F := Wv l h w p) (B := Wv p d r o) (c := c6) (s2 := iS h) (s3 := iS w) (s4 := iS d) (s5 := iS r) (s11 := some (.sh (.tuple [.bool true, .bool true]))) (s12 := fS ((Wv l h w p).map fun q => (q.1, q.2 + 1))) hR hC (a := (d : Int)) (b := (r : Int)) (by omega) (by omega) (by rw [T.unw.1]; rfl) wv
  have z2 := d_size (l := l) (p := p) (o := o) (F := Wv l h w p) (B := Wv p d r o) (c := c6) (s2 := iS h) (s3 := iS w) (s4 := iS d) (s5 := iS r) (s11 := some (.sh (.tuple [.bool true, .bool true]))) (s12 := fS ((Wv l h w p).map fun q => (q.1, q.2 + 1))) hR hC (a := (h : Int) * d) (b := (w : Int) * r) (by omega) (by omega) (by rw [T.unw.2.1]; rfl) wv
  have rm := rmx_max T.X.1.ne
  have cm := cmx_max T.X.1.ne
  have l4 := T.X.1.len
  have l5 := T.F.1.len
  have sd := dLc_prs (i := 13) (j := 14) (fi := dItems (dVar 8)) (fe := dTup (dCons (dVar 13) (dCons (dBin bAdd (dVar 14) (dC (.int 1))) dNil))) (fun q => prD (q.1, q.2 + 1)) (ρ := eT c6 l (iS h) (iS w) (iS d) (iS r) (fS p) (fS o) (fS (Wv l h w p)) (fS (Wv p d r o)) (fS (Wv (Wv l h w p) d r o)) (some (.sh (.tuple [.bool true, .bool true]))) none none) (Wv l h w p) (items_floor rfl) rfl (by omega) fun q hq => by
    rw [prD_mk]
    clear T
    walk_at "pd"
  have le : PyData.list ((Wv l h w p).map fun q => prD (q.1, q.2 + 1)) = cellsD ((Wv l h w p).map fun q => (q.1, q.2 + 1)) := by unfold cellsD; rw [List.map_map]; rfl
  rw [le] at sd
  have rl := dLc_prs (i := 13) (j := 14) (fi := dItems (dVar 10)) (fe := dVar 13) (fun q => PyData.int q.1) (ρ := eT c6 l (iS h) (iS w) (iS d) (iS r) (fS p) (fS o) (fS (Wv l h w p)) (fS (Wv p d r o)) (fS (Wv (Wv l h w p) d r o)) (some (.sh (.tuple [.bool true, .bool true]))) (fS ((Wv l h w p).map fun q => (q.1, q.2 + 1))) none) (Wv (Wv l h w p) d r o) (items_floor rfl) rfl (by omega) fun q hq => rfl
  have cl := dLc_prs (i := 13) (j := 14) (fi := dItems (dVar 10)) (fe := dVar 14) (fun q => PyData.int q.2) (ρ := eT c6 l (iS h) (iS w) (iS d) (iS r) (fS p) (fS o) (fS (Wv l h w p)) (fS (Wv p d r o)) (fS (Wv (Wv l h w p) d r o)) (some (.sh (.tuple [.bool true, .bool true]))) (fS ((Wv l h w p).map fun q => (q.1, q.2 + 1))) none) (Wv (Wv l h w p) d r o) (items_floor rfl) rfl (by omega) fun q hq => rfl
  have m1 : bMul (.int (h : Int)) (.int (d : Int)) = some (.sh (.int ((h : Int) * d))) := PD.mul_int (.inl ⟨by omega, by omega⟩)
  have m2 : bMul (.int (w : Int)) (.int (r : Int)) = some (.sh (.int ((w : Int) * r))) := PD.mul_int (.inl ⟨by omega, by omega⟩)
  have m3 : bMul (.int (l.length : Int)) (.int (p.length : Int)) = some (.sh (.int ((l.length : Int) * p.length))) := PD.mul_int (.inl ⟨by omega, by omega⟩)
  have m4 : bMul (.int ((l.length : Int) * p.length)) (.int (o.length : Int)) = some (.sh (.int ((l.length : Int) * p.length * o.length))) := PD.mul_int (.inr ⟨by have := T.lo; omega, by have := T.lo; omega⟩)
  have k4 : decide (((Wv (Wv l h w p) d r o).length : Int) = (l.length : Int) * p.length * o.length) = true := decide_eq_true (by rw [len_Wv, len_Wv, Int.natCast_mul, Int.natCast_mul])
  have lo4 := T.lo
  have bl : (Wv p d r o).length ≤ 36 := by rw [len_Wv]; exact lB
  have pf : ∀ x : List P, x.length ≤ 1000 → ∀ n, plainD (n + 3) (floorD x) = true := fun x hx n => plain_floor x (by omega) n
  have s1 := same_refl 8 (floorD (Wv (Wv l h w p) d r o)) (pf _ (by omega) 5)
  have s2 := same_refl 8 (.tuple [.tuple [floorD (Wv l h w p), floorD o], .tuple [floorD l, floorD (Wv p d r o)], .tuple [floorD l, floorD p]]) (by
    have q1 := pf (Wv l h w p) (by omega) 3
    have q2 := pf o (by omega) 3
    have q3 := pf l (by omega) 3
    have q4 := pf (Wv p d r o) (by omega) 3
    have q5 := pf p (by have := T.lp; omega) 3
    have t2 : ∀ a b : D, plainD 6 a = true → plainD 6 b = true → plainD 7 (.tuple [a, b]) = true := fun a b ha hb => by
      show ([a, b].all (plainD 6) && decide (2 ≤ 100000)) = true
      simp [ha, hb]
    show ([PyData.tuple [floorD (Wv l h w p), floorD o], .tuple [floorD l, floorD (Wv p d r o)], .tuple [floorD l, floorD p]].all (plainD 7) && decide (3 ≤ 100000)) = true
    simp [t2 _ _ q1 q2, t2 _ _ q3 q4, t2 _ _ q3 q5])
  have s3 := same_refl 8 (.tuple [.bool true, .bool true]) rfl
  have ad : bAdd (.tuple (cutD (o.map prD) none (some (-1)))) (.tuple [.tuple [.int 59, .int 59]]) = some (.sh (floorD (o.dropLast ++ [(59, 59)]))) := by
    have : floorD (o.dropLast ++ [(59, 59)]) = .tuple ((o.map prD).dropLast ++ [.tuple [.int 59, .int 59]]) := by
      unfold floorD
      rw [List.map_append, ← List.map_dropLast]
      rfl
    rw [this, cut_last]
    exact if_pos (by rw [List.length_dropLast, List.length_map, List.length_singleton]; omega)
  have i1 := hc1.inner
  have i2 := hc2.inner
  have i3 := hc3.inner
  have i4 := hc4.inner
  have i5 := hc5.inner
  have i6 := hc6.inner
  have j0 := imm_floor l
  have j1 := imm_floor p
  have j2 := imm_floor o
  have j3 := imm_floor (Wv l h w p)
  have j4 := imm_floor (Wv p d r o)
  have j5 := imm_floor (Wv (Wv l h w p) d r o)
  have j6 := imm_floor ((Wv l h w p).map fun q => (q.1, q.2 + 1))
  have j7 := imm_floor (o.dropLast ++ [(59, 59)])
  refine ⟨c6, ?_, hc6⟩
  clear x0 x1 y0 y1 z0 z1' u0 u1 hc hc1 hc2 hc3 hc4 hc5 hc6 pp lp po lo bh bw bd br T bb lF lB lX inO inB' rb cb l4 l5 lo4 bl pf le hR hC wv fl il ll
  generalize (Wv l h w p).map (fun q => (q.1, q.2 + 1)) = SD at *
  generalize rmx (Wv (Wv l h w p) d r o) = RR at *
  generalize cmx (Wv (Wv l h w p) d r o) = CC at *
  generalize PyData.list ((Wv (Wv l h w p) d r o).map fun q => PyData.int q.1) = RL at *
  generalize PyData.list ((Wv (Wv l h w p) d r o).map fun q => PyData.int q.2) = CL at *
  generalize Wv (Wv l h w p) d r o = X at *
  generalize Wv l h w p = F at *
  generalize Wv p d r o = B at *
  generalize floorD (o.dropLast ++ [(59, 59)]) = BD at *
  have hb : b__law_three_right (eT c l none none none none none none none none none none none none) = some (.rt (.sh (.bool true)) (eT c6 l (iS h) (iS w) (iS d) (iS r) (fS p) (fS o) (fS F) (fS B) (fS X) (some (.sh (.tuple [.bool true, .bool true]))) (fS SD) (some (.sh (.tuple [.int (RR + 1), .int (CC + 1)]))))) := by
    unfold b__law_three_right
    refine (dSeq_nx (ρ1 := eT c4 l (iS h) (iS w) (iS d) (iS r) none none none none none none none none) ?_).trans ?_
    · clear e5 e6 a1 a2 a3 a4 u1' u2' u3' w1 w2 w3 w4 z1 z2 rm cm sd rl cl m1 m2 m3 m4 k4 s1 s2 s3 ad
      walk_at "pd*"
    refine (dSeq_nx (ρ1 := eT c6 l (iS h) (iS w) (iS d) (iS r) (fS p) (fS o) none none none none none none) ?_).trans ?_
    · clear e1 e2 e3 e4 eh ew ed er a1 a2 a3 a4 u1' u2' u3' w1 w2 w3 w4 z1 z2 rm cm sd rl cl m1 m2 m3 m4 k4 s1 s2 s3 ad
      walk_at "pd*"
    refine (dSeq_nx (ρ1 := eT c6 l (iS h) (iS w) (iS d) (iS r) (fS p) (fS o) (fS F) (fS B) none none none none) ?_).trans ?_
    · clear e1 e2 e3 e4 e5 e6 eh ew ed er a3 a4 u1' u2' u3' w1 w2 w3 w4 z1 z2 rm cm sd rl cl m1 m2 m3 m4 k4 s1 s2 s3 ad
      walk_at "pd*"
    refine (dSeq_nx (ρ1 := eT c6 l (iS h) (iS w) (iS d) (iS r) (fS p) (fS o) (fS F) (fS B) (fS X) none none none) ?_).trans ?_
    · clear e1 e2 e3 e4 e5 e6 eh ew ed er a1 a2 a4 u1' u2' u3' w1 w2 w3 w4 z1 z2 rm cm sd rl cl m1 m2 m3 m4 k4 s1 s2 s3 ad
      walk_at "pd*"
    refine (dSeq_nx (ρ1 := eT c6 l (iS h) (iS w) (iS d) (iS r) (fS p) (fS o) (fS F) (fS B) (fS X) none none none) ?_).trans ?_
    · clear e1 e2 e3 e4 e5 e6 eh ew ed er a1 a2 a3 u1' u2' u3' w1 w2 w3 w4 z1 z2 rm cm sd rl cl s2 s3 ad
      walk_at "pd*"
    refine (dSeq_nx (ρ1 := eT c6 l (iS h) (iS w) (iS d) (iS r) (fS p) (fS o) (fS F) (fS B) (fS X) (some (.sh (.tuple [.tuple [floorD F, floorD o], .tuple [floorD l, floorD B], .tuple [floorD l, floorD p]]))) none none) ?_).trans ?_
    · clear e1 e2 e3 e4 e5 e6 eh ew ed er a1 a2 a3 a4 w1 w2 w3 w4 z1 z2 rm cm sd rl cl m3 m4 k4 s1 s2 s3 ad
      walk_at "pd*"
    refine (dSeq_nx (ρ1 := eT c6 l (iS h) (iS w) (iS d) (iS r) (fS p) (fS o) (fS F) (fS B) (fS X) (some (.sh (.tuple [.tuple [floorD F, floorD o], .tuple [floorD l, floorD B], .tuple [floorD l, floorD p]]))) none none) ?_).trans ?_
    · clear e1 e2 e3 e4 e5 e6 eh ew ed er a1 a2 a3 a4 u1' u2' u3' w1 w2 w3 w4 z1 z2 rm cm sd rl cl m1 m2 m3 m4 k4 s1 s3 ad
      walk_at "pd*"
    refine (dSeq_nx (ρ1 := eT c6 l (iS h) (iS w) (iS d) (iS r) (fS p) (fS o) (fS F) (fS B) (fS X) (some (.sh (.tuple [.bool true, .bool true]))) none none) ?_).trans ?_
    · clear e1 e2 e3 e4 e5 e6 eh ew ed er a1 a2 a3 a4 u1' u2' u3' w3 w4 z1 z2 rm cm sd rl cl m3 m4 k4 s1 s2 s3 ad
      walk_at "pd*"
    refine (dSeq_nx (ρ1 := eT c6 l (iS h) (iS w) (iS d) (iS r) (fS p) (fS o) (fS F) (fS B) (fS X) (some (.sh (.tuple [.bool true, .bool true]))) (fS SD) none) ?_).trans ?_
    · clear e1 e2 e3 e4 e5 e6 eh ew ed er a1 a2 a3 a4 u1' u2' u3' w1 w2 w3 w4 z1 z2 rm cm rl cl m1 m2 m3 m4 k4 s1 s2 s3 ad
      walk_at "pd*"
    refine (dSeq_nx (ρ1 := eT c6 l (iS h) (iS w) (iS d) (iS r) (fS p) (fS o) (fS F) (fS B) (fS X) (some (.sh (.tuple [.bool true, .bool true]))) (fS SD) none) ?_).trans ?_
    · clear e1 e2 e3 e4 e5 e6 eh ew ed er a1 a2 a3 a4 u1' u2' u3' w1 w2 w4 z1 z2 rm cm sd rl cl m1 m2 m3 m4 k4 s1 s2 ad
      walk_at "pd*"
    refine (dSeq_nx (ρ1 := eT c6 l (iS h) (iS w) (iS d) (iS r) (fS p) (fS o) (fS F) (fS B) (fS X) (some (.sh (.tuple [.bool true, .bool true]))) (fS SD) none) ?_).trans ?_
    · clear e1 e2 e3 e4 e5 e6 eh ew ed er a1 a2 a3 a4 u1' u2' u3' w1 w2 w3 z1 z2 rm cm sd rl cl m1 m2 m3 m4 k4 s1 s2 s3
      have fo : floorD o = .tuple (o.map prD) := rfl
      simp only [fS]
      rw [fo] at j2 ⊢
      clear fo
      walk_at "pd*"
    refine (dSeq_nx (ρ1 := eT c6 l (iS h) (iS w) (iS d) (iS r) (fS p) (fS o) (fS F) (fS B) (fS X) (some (.sh (.tuple [.bool true, .bool true]))) (fS SD) (some (.sh (.tuple [.int (RR + 1), .int (CC + 1)])))) ?_).trans ?_
    · clear e1 e2 e3 e4 e5 e6 eh ew ed er a1 a2 a3 a4 u1' u2' u3' w1 w2 w3 w4 z1 z2 sd m1 m2 m3 m4 k4 s1 s2 s3 ad
      walk_at "pd*"
    have fo : dFor (dItems (dTup (dCons (dTup (dCons (dVar 4) (dCons (dVar 5) dNil))) (dCons (dTup (dCons (dBin bMul (dVar 2) (dVar 4)) (dCons (dBin bMul (dVar 3) (dVar 5)) dNil))) dNil)))) (gN 16) l1__law_three_right [16, 17] (eT c6 l (iS h) (iS w) (iS d) (iS r) (fS p) (fS o) (fS F) (fS B) (fS X) (some (.sh (.tuple [.bool true, .bool true]))) (fS SD) (some (.sh (.tuple [.int (RR + 1), .int (CC + 1)])))) =
        some (.nx (eT c6 l (iS h) (iS w) (iS d) (iS r) (fS p) (fS o) (fS F) (fS B) (fS X) (some (.sh (.tuple [.bool true, .bool true]))) (fS SD) (some (.sh (.tuple [.int (RR + 1), .int (CC + 1)]))))) := by
      have fi : dItems (dTup (dCons (dTup (dCons (dVar 4) (dCons (dVar 5) dNil))) (dCons (dTup (dCons (dBin bMul (dVar 2) (dVar 4)) (dCons (dBin bMul (dVar 3) (dVar 5)) dNil))) dNil))) (eT c6 l (iS h) (iS w) (iS d) (iS r) (fS p) (fS o) (fS F) (fS B) (fS X) (some (.sh (.tuple [.bool true, .bool true]))) (fS SD) (some (.sh (.tuple [.int (RR + 1), .int (CC + 1)])))) =
          some ([.tuple [.int (d : Int), .int (r : Int)], .tuple [.int ((h : Int) * d), .int ((w : Int) * r)]], eT c6 l (iS h) (iS w) (iS d) (iS r) (fS p) (fS o) (fS F) (fS B) (fS X) (some (.sh (.tuple [.bool true, .bool true]))) (fS SD) (some (.sh (.tuple [.int (RR + 1), .int (CC + 1)])))) := by
        clear e1 e2 e3 e4 e5 e6 eh ew ed er a1 a2 a3 a4 u1' u2' u3' w1 w2 w3 w4 z1 z2 sd m3 m4 k4 s1 s2 s3 ad rm cm rl cl
        walk_at "pd*"
      rw [dFor_from fi, forGo_turn z1, forGo_turn z2]
      rfl
    rw [dSeq_nx fo]
    rfl
  have hq : b__law_three_right ⟨true, some (.own c) :: slots [floorD l] (18 - 1)⟩ = _ := hb
  unfold m__law_three_right semC
  rw [if_pos (by rfl), hq]
  rfl
end PD.K81
set_option Elab.async false
set_option linter.all false
set_option maxRecDepth 100000
set_option maxHeartbeats 4000000
namespace PD.K81
set_option autoImplicit false
open PySem PySem.Spec L2 PD
open PyProof.Rows hiding St
local macro_rules | `(tactic| walk_at "pd") => `(tactic| simp only [dC, dVar, dBin, dCmp_ap, dCmpT, wB, dChainT, dOfT, dTruT, dAndT, dOrT, dNotT, dAndV, dOrV, dNotV, dIf, dNeg, dNil, dCons, gives, give_vr, give_sh, give_fr, get_sh, get_fr, get_vr, En.at, En.with, Sl.d, dTup, dLst, dCut, dNo, dPart, bCut, dNx, dSeq, dIfS, dRet, dRetN, dBk, dCt, dDrop, dStIx, set_l0, set_l1, gN, gCons, gTup, gNil, dSet, dPar, dUnp, settle, puts, En.put, En.set, dItems, dRg1, dRg2, itemsOf, dB1, semOf, slots, endOf, dCall, gets, light_f, light_t, wOf_f, wOf_t, is_nn, is_bn, is_in, is_sn, is_ln, is_tn, is_bb, isn_nn, isn_bn, isn_in, isn_sn, isn_ln, isn_tn, isn_bb, tyD_list, tyD_dict, eq_self, imm_none, imm_bool, imm_int, imm_str, imm_tup, imm_list, imms_nil, imms_cons, inner_list,
  isi_int, isi_bool, isi_tuple, isi_list, isi_str, isi_dict, isInt, isBool, isTup, isLst, isStr, isDic, En.wipe, wipeS, restoreS, dMut, En.mine, En.own, dEnum, dZip, len_floor, len_cells, len_pr, tup_cells, tup_floor, lst_floor, lst_cells, imm_pr, imm_floor, imms_prs, inner_cells, in_floor, in_cells, notIn_floor, notIn_cells, ne_cells_nil, eq_cells_nil, ne_floor_nil, eq_floor_nil, eq_floor, ne_floor, eq_cells, ne_cells, eq_pr, ne_pr, lt_pr, sort_cells, sortA_cells, tyM_list, tyM_cells, dash_list, dash_dict, ix_pr0, ix_pr1, tru_floor, tru_cells, isTup_floor, isTup_pr, isLst_cells, isLst_floor, max_pr, dNewT, dNewK, tru_none, tru_bool, tru_int, tru_list, tru_tup, len_list, len_tup, len_dict, PD.add_int, PD.sub_int, int_int, abs_int, le_int, lt_int, gt_int, ge_int, PD.eq_int, PD.ne_int, PD.ne_bool, PD.eq_bool, PD.eq_nil, ix_tup0, ix_tup1, ix_tup2, ix_tup3, ix_list0, ix_list1, tup_list, tup_tup, lst_list, lst_tup, dCallC, notVr, semC,
  Option.bind_some, Option.map_some, Option.bind_none, Option.map_none, List.getElem?_cons_zero, List.getElem?_cons_succ, List.length_cons, List.length_nil, List.map_cons, List.map_nil, List.replicate, List.append_nil, List.nil_append, List.cons_append, List.set_cons_zero, List.set_cons_succ, List.all_cons, List.all_nil, Nat.sub_self, Nat.reduceAdd, Nat.reduceSub, Nat.reduceLT, Nat.reduceEqDiff, List.mem_cons, List.not_mem_nil,  Nat.reduceLeDiff, if_true, if_false, reduceIte, ite_self, Bool.false_eq_true, Bool.not_true, Bool.not_false, decide_true, decide_false, Option.getD_some, Option.getD_none, Bool.true_and, Bool.and_true, Bool.false_and, Bool.and_false, false_and, and_false, true_and, and_true, not_true_eq_false, not_false_eq_true, or_self, or_false, false_or, List.isEmpty_cons, List.isEmpty_nil, Nat.zero_ne_one])
local macro_rules | `(tactic| walk_at "pd*") => `(tactic| simp only [dC, dVar, dBin, dCmp_ap, dCmpT, wB, dChainT, dOfT, dTruT, dAndT, dOrT, dNotT, dAndV, dOrV, dNotV, dIf, dNeg, dNil, dCons, gives, give_vr, give_sh, give_fr, get_sh, get_fr, get_vr, En.at, En.with, Sl.d, dTup, dLst, dCut, dNo, dPart, bCut, dNx, dSeq, dIfS, dRet, dRetN, dBk, dCt, dDrop, dStIx, set_l0, set_l1, gN, gCons, gTup, gNil, dSet, dPar, dUnp, settle, puts, En.put, En.set, dItems, dRg1, dRg2, itemsOf, dB1, semOf, slots, endOf, dCall, gets, light_f, light_t, wOf_f, wOf_t, is_nn, is_bn, is_in, is_sn, is_ln, is_tn, is_bb, isn_nn, isn_bn, isn_in, isn_sn, isn_ln, isn_tn, isn_bb, tyD_list, tyD_dict, eq_self, imm_none, imm_bool, imm_int, imm_str, imm_tup, imm_list, imms_nil, imms_cons, inner_list,
  isi_int, isi_bool, isi_tuple, isi_list, isi_str, isi_dict, isInt, isBool, isTup, isLst, isStr, isDic, En.wipe, wipeS, restoreS, dMut, En.mine, En.own, dEnum, dZip, len_floor, len_cells, len_pr, tup_cells, tup_floor, lst_floor, lst_cells, imm_pr, imm_floor, imms_prs, inner_cells, in_floor, in_cells, notIn_floor, notIn_cells, ne_cells_nil, eq_cells_nil, ne_floor_nil, eq_floor_nil, eq_floor, ne_floor, eq_cells, ne_cells, eq_pr, ne_pr, lt_pr, sort_cells, sortA_cells, tyM_list, tyM_cells, dash_list, dash_dict, ix_pr0, ix_pr1, tru_floor, tru_cells, isTup_floor, isTup_pr, isLst_cells, isLst_floor, max_pr, dNewT, dNewK, tru_none, tru_bool, tru_int, tru_list, tru_tup, len_list, len_tup, len_dict, PD.add_int, PD.sub_int, int_int, abs_int, le_int, lt_int, gt_int, ge_int, PD.eq_int, PD.ne_int, PD.ne_bool, PD.eq_bool, PD.eq_nil, ix_tup0, ix_tup1, ix_tup2, ix_tup3, ix_list0, ix_list1, tup_list, tup_tup, lst_list, lst_tup, dCallC, notVr, semC,
  Option.bind_some, Option.map_some, Option.bind_none, Option.map_none, List.getElem?_cons_zero, List.getElem?_cons_succ, List.length_cons, List.length_nil, List.map_cons, List.map_nil, List.replicate, List.append_nil, List.nil_append, List.cons_append, List.set_cons_zero, List.set_cons_succ, List.all_cons, List.all_nil, Nat.sub_self, Nat.reduceAdd, Nat.reduceSub, Nat.reduceLT, Nat.reduceEqDiff, List.mem_cons, List.not_mem_nil,  Nat.reduceLeDiff, if_true, if_false, reduceIte, ite_self, Bool.false_eq_true, Bool.not_true, Bool.not_false, decide_true, decide_false, Option.getD_some, Option.getD_none, Bool.true_and, Bool.and_true, Bool.false_and, Bool.and_false, false_and, and_false, true_and, and_true, not_true_eq_false, not_false_eq_true, or_self, or_false, false_or, List.isEmpty_cons, List.isEmpty_nil, Nat.zero_ne_one, *])
/-! ### the law -/
theorem pat_box {a : Nat} (h0 : 1 ≤ a) (h1 : a ≤ 20) : Pat (box a a) a a := by
  refine ⟨⟨ss_box a a, fun z => ?_, by rw [len_box]; exact Nat.mul_le_mul h1 h1, fun q hq => ?_⟩, box_in⟩
  · have := len_box a a
    rw [z] at this
    have : 0 < a * a := Nat.mul_pos h0 h0
    simp at *
    omega
  · have := mem_box.mp hq
    omega
theorem wv_box {a b : Nat} (hb : 0 < b) : Wv (box a a) b b (box b b) = box (a * b) (a * b) := by
  refine ss_ext (ss_Wv (ss_box a a).nodup (ss_box b b).nodup box_in) (ss_box _ _) fun z => ?_
  rw [mem_Wv box_in, mem_box, mem_box, mem_box]
  have r := rem_in (h := (b : Int)) (w := (b : Int)) (by omega) (by omega) z
  unfold InB at r
  have key : ∀ x : Int, (0 ≤ x / b ∧ x / b < (a : Int)) ↔ (0 ≤ x ∧ x < ((a * b : Nat) : Int)) := fun x => by
    rw [Int.natCast_mul, ← Int.ediv_lt_iff_lt_mul (by omega)]
    have := Int.ediv_nonneg_iff_of_pos (a := x) (b := (b : Int)) (by omega)
    rw [this]
  unfold homeB
  simp only
  rw [key, key]
  exact ⟨fun h => h.1, fun h => ⟨h, r⟩⟩
theorem cut_k (xs : List D) (k : Nat) : cutD xs none (some (k : Int)) = xs.take k := by
  unfold cutD
  have h1 : HT.sIx xs.length 0 none = 0 := rfl
  rw [h1, HT.sIx_nat, List.drop_zero, Nat.sub_zero]
  by_cases h : k ≤ xs.length
  · rw [Nat.min_eq_left h]
  · rw [Nat.min_eq_right (by omega), List.take_of_length_le (Nat.le_refl _), List.take_of_length_le (by omega)]
abbrev eW (c : D) (s2 s3 s4 s5 s6 s7 s8 s9 s12 s13 s14 : Option Sl) : En := ⟨false, [none, some (.own c), s2, s3, s4, s5, s6, s7, s8, s9, none, none, s12, s13, s14]⟩
theorem law_turn {c i : D} (hc : Cup c) : ∃ c', turnOf (gN 2) l1_law [2, 3, 4, 5, 6, 7, 8, 9, 10, 11, 12, 13, 14] i (eW c none none none none none none none none none none none) = some (eW c' none none none none none none none none none none none) ∧ Cup c' := by
  obtain ⟨c1, l, e1, hc1, ss, ne, ln, il⟩ := d_law_floor hc (n := 6) (s := 4) (by decide) (by decide) (by decide) (by decide)
  have ll : l.length ≤ 6 := by omega
  have fl : Flo l := flo_of ss ne (by omega) il (by decide)
  obtain ⟨c2, e2, hc2⟩ := d_three_right hc1 fl il ll
  obtain ⟨c3, x, e3, hc3, x0, x1⟩ := d_roll hc2 (n := 3) (by decide) (by decide)
  obtain ⟨c4, y, e4, hc4, y0, y1⟩ := d_roll hc3 (n := 2) (by decide) (by decide)
  obtain ⟨a, ea⟩ : ∃ a : Nat, 1 + x = (a : Int) := ⟨(1 + x).toNat, by omega⟩
  obtain ⟨b, eb⟩ : ∃ b : Nat, 1 + y = (b : Int) := ⟨(1 + y).toNat, by omega⟩
  have ba : 1 ≤ a ∧ a ≤ 3 := by omega
  have bb : 1 ≤ b ∧ b ≤ 2 := by omega
  have bab : 1 ≤ a * b ∧ a * b ≤ 6 := ⟨Nat.mul_le_mul ba.1 bb.1, Nat.mul_le_mul ba.2 bb.2⟩
  have aa : a * a ≤ 9 := Nat.mul_le_mul ba.2 ba.2
  have b2 : b * b ≤ 4 := Nat.mul_le_mul bb.2 bb.2
  have ab2 : (a * b) * (a * b) ≤ 36 := Nat.mul_le_mul bab.2 bab.2
  have pa := pat_box (a := a) ba.1 (by omega)
  have pb := pat_box (a := b) bb.1 (by omega)
  have pab := pat_box (a := a * b) bab.1 (by omega)
  have n1 : l.length * (a * a) ≤ 54 := Nat.mul_le_mul ll aa
  have G := flo_wv fl pa (by omega) (by omega) il (by rw [len_box]; omega) (by omega) (by omega) (by decide) (by decide)
  have n2 : l.length * (a * a) * (b * b) ≤ 216 := Nat.mul_le_mul n1 b2
  have GG := flo_wv G.1 pb (by omega) (by omega) G.2 (by rw [len_Wv, len_box, len_box]; omega) (by
    have := Nat.mul_le_mul (Nat.mul_le_mul_left 4 ba.2) bb.2
    have c1 : ((4 * a * b : Nat) : Int) = 4 * (a : Int) * b := by rw [Int.natCast_mul, Int.natCast_mul]; rfl
    omega) (by
    have := Nat.mul_le_mul (Nat.mul_le_mul_left 4 ba.2) bb.2
    have c1 : ((4 * a * b : Nat) : Int) = 4 * (a : Int) * b := by rw [Int.natCast_mul, Int.natCast_mul]; rfl
    omega) (by omega) (by omega)
  have as : Wv l ((a * b : Nat) : Int) ((a * b : Nat) : Int) (box (a * b) (a * b)) = Wv (Wv l a a (box a a)) b b (box b b) := by
    rw [wv_assoc (by omega) (by omega) (by omega) (by omega) ss.nodup (ss_box a a).nodup (ss_box b b).nodup box_in box_in, wv_box (by omega), Int.natCast_mul]
  have g1 := d_enlarged fl (t := a) ba.1 (by omega) (by omega) G.1
  have g2 := d_enlarged G.1 (t := b) bb.1 (by omega) (by rw [len_Wv, len_box]; omega) GG.1
  have g3 := d_woven fl (h := (a : Int)) (w := (a : Int)) (by omega) (by omega) (by omega) (by omega) pa (by rw [len_box]; omega) G.1
  have g4 := d_lessened_wv G.1.ss (t := b) bb.1 (by omega) GG.1
  have g5 := d_enlarged fl (t := a * b) bab.1 (by omega) (by
    have := Nat.mul_le_mul ll ab2
    omega) (by rw [as]; exact GG.1)
  rw [as] at g5
  have g6 := d_law_box (h := a) (w := a) (by omega) (by omega)
  have mab : bMul (.int (a : Int)) (.int (b : Int)) = some (.sh (.int ((a * b : Nat) : Int))) := by rw [PD.mul_int (.inl ⟨by omega, by omega⟩), Int.natCast_mul]
  -- the floor's own powers
  obtain ⟨H, eH⟩ : ∃ H : Int, rmx l + 1 = H := ⟨_, rfl⟩
  obtain ⟨W, eW'⟩ : ∃ W : Int, cmx l + 1 = W := ⟨_, rfl⟩
  have bH : 1 ≤ H ∧ H ≤ 4 := by
    obtain ⟨q, hq, e⟩ := rmx_mem ne
    have := il q hq
    unfold InB at this
    omega
  have bW : 1 ≤ W ∧ W ≤ 4 := by
    obtain ⟨q, hq, e⟩ := cmx_mem ne
    have := il q hq
    unfold InB at this
    omega
  have sub : ∀ q ∈ l.take 3, q ∈ l := fun q hq => List.mem_of_mem_take hq
  have sl : (l.take 3).length ≤ 3 := by rw [List.length_take]; omega
  have fS : Flo (l.take 3) := ⟨ss.sublist (List.take_sublist _ _), fun z => by
    have := congrArg List.length z
    have := fl.pos
    rw [List.length_take] at *
    simp only [List.length_nil] at *
    omega, by omega, fun q hq => fl.rng q (sub q hq)⟩
  have pS : Pat (l.take 3) H W := ⟨fS, fun q hq => by
    have h1 := rmx_ge (sub q hq)
    have h2 := cmx_ge (sub q hq)
    have h3 := fl.rng q (sub q hq)
    exact ⟨⟨h3.1.1, by omega⟩, h3.2.1, by omega⟩⟩
  have cS : floorD (l.take 3) = .tuple (cutD (l.map prD) none (some 3)) := by
    rw [show (3 : Int) = ((3 : Nat) : Int) from rfl, cut_k, floorD, List.map_take]
  have rm := rmx_max ne
  have cm := cmx_max ne
  have rl := dLc_prs (i := 10) (j := 11) (fi := dItems (dVar 3)) (fe := dVar 10) (fun q => PyData.int q.1) (ρ := eW c4 (some (.sh i)) (some (.sh (floorD l))) (iS a) (iS b) (some (.sh (floorD (Wv l a a (box a a))))) (some (.sh (.tuple [floorD (Wv (Wv l a a (box a a)) b b (box b b)), floorD (Wv l a a (box a a)), floorD (Wv l a a (box a a))]))) none none none none none) l (items_floor rfl) rfl (by omega) fun q hq => rfl
  have cl := dLc_prs (i := 10) (j := 11) (fi := dItems (dVar 3)) (fe := dVar 11) (fun q => PyData.int q.2) (ρ := eW c4 (some (.sh i)) (some (.sh (floorD l))) (iS a) (iS b) (some (.sh (floorD (Wv l a a (box a a))))) (some (.sh (.tuple [floorD (Wv (Wv l a a (box a a)) b b (box b b)), floorD (Wv l a a (box a a)), floorD (Wv l a a (box a a))]))) none none none none none) l (items_floor rfl) rfl (by omega) fun q hq => rfl
  generalize hS : l.take 3 = S at *
  have HH : H * H ≤ 16 ∧ 1 ≤ H * H := ⟨by have := Int.mul_le_mul bH.2 bH.2 (by omega) (by decide); omega, by have := Int.mul_le_mul bH.1 bH.1 (by decide) (by omega); omega⟩
  have WW : W * W ≤ 16 ∧ 1 ≤ W * W := ⟨by have := Int.mul_le_mul bW.2 bW.2 (by omega) (by decide); omega, by have := Int.mul_le_mul bW.1 bW.1 (by decide) (by omega); omega⟩
  have s2 : S.length * S.length ≤ 9 := Nat.mul_le_mul sl sl
  have V := flo_wv fS pS (by omega) (by omega) pS.inb (by omega) (by omega) (by omega) (by omega) (by omega)
  have v1 := d_woven_times (l := S) (h := H) (w := W) (by omega) (by omega) (by omega) (by omega) pS (k := 1) (by decide) (by rw [Nat.pow_succ, Nat.pow_one]; omega) V.1
  have v1 : m_woven_times [floorD S, .int H, .int W, .int 2] = some (false, floorD (Wv S H W S)) := v1
  have v2 := d_woven_times (l := S) (h := H) (w := W) (by omega) (by omega) (by omega) (by omega) pS (k := 0) (by decide) (by rw [Nat.pow_one]; omega) fS
  have v2 : m_woven_times [floorD S, .int H, .int W, .int 1] = some (false, floorD S) := v2
  have v3 := d_woven fS (h := H) (w := W) (by omega) (by omega) (by omega) (by omega) pS (by omega) V.1
  have v4 := d_unwoven V.1 (h := H) (w := W) (by omega) (by omega) (by omega) (by omega)
  unfold unwD at v4
  rw [unw_wv (by omega) (by omega) fS.ss fS.ss pS.inb fS.ne fS.ne] at v4
  have lV : (Wv S H W S).length ≤ 9 := by rw [len_Wv]; exact s2
  have v5 : H < 4 → W < 4 → m_woven [floorD (Wv S H W S), .int H, .int W, floorD S] = some (false, floorD (Wv (Wv S H W S) H W S)) ∧ m_woven_times [floorD S, .int H, .int W, .int 3] = some (false, floorD (Wv (Wv S H W S) H W S)) ∧
      m_woven [floorD S, .int (H * H), .int (W * W), floorD (Wv S H W S)] = some (false, floorD (Wv (Wv S H W S) H W S)) ∧ (Wv (Wv S H W S) H W S).length ≤ 27 := fun h3 w3 => by
    have H3 : H * H * H ≤ 27 := by
      have a := Int.mul_le_mul (show H ≤ 3 by omega) (show H ≤ 3 by omega) (by omega) (by decide)
      have := Int.mul_le_mul a (show H ≤ 3 by omega) (by omega) (by decide)
      omega
    have W3 : W * W * W ≤ 27 := by
      have a := Int.mul_le_mul (show W ≤ 3 by omega) (show W ≤ 3 by omega) (by omega) (by decide)
      have := Int.mul_le_mul a (show W ≤ 3 by omega) (by omega) (by decide)
      omega
    have s3 : S.length * S.length * S.length ≤ 27 := Nat.mul_le_mul s2 sl
    have V3 := flo_wv V.1 pS (by omega) (by omega) V.2 (by rw [len_Wv]; omega) (by omega) (by omega) (by omega) (by omega)
    have as3 : Wv (Wv S H W S) H W S = Wv S (H * H) (W * W) (Wv S H W S) := wv_assoc (by omega) (by omega) (by omega) (by omega) fS.ss.nodup fS.ss.nodup fS.ss.nodup pS.inb pS.inb
    refine ⟨d_woven V.1 (by omega) (by omega) (by omega) (by omega) pS (by rw [len_Wv]; omega) V3.1, ?_, ?_, by rw [len_Wv, len_Wv]; exact s3⟩
    · exact d_woven_times (l := S) (h := H) (w := W) (by omega) (by omega) (by omega) (by omega) pS (k := 2) (by decide) (by rw [Nat.pow_succ, Nat.pow_succ, Nat.pow_one]; omega) V3.1
    · have := d_woven fS (h := H * H) (w := W * W) (by omega) (by omega) (by omega) (by omega) ⟨V.1, V.2⟩ (by rw [len_Wv, ← Nat.mul_assoc]; omega) (by rw [← as3]; exact V3.1)
      rwa [← as3] at this
  have mH : bMul (.int H) (.int H) = some (.sh (.int (H * H))) := PD.mul_int (.inl ⟨by omega, by omega⟩)
  have mW : bMul (.int W) (.int W) = some (.sh (.int (W * W))) := PD.mul_int (.inl ⟨by omega, by omega⟩)
  have pf : ∀ x : List P, x.length ≤ 1000 → ∀ n, plainD (n + 3) (floorD x) = true := fun x hx n => plain_floor x (by omega) n
  have lG := G.1.len
  have lGG := GG.1.len
  have r1 := same_refl 8 (.tuple [floorD (Wv (Wv l a a (box a a)) b b (box b b)), floorD (Wv l a a (box a a)), floorD (Wv l a a (box a a))]) (by
    have q1 := pf (Wv (Wv l a a (box a a)) b b (box b b)) (by omega) 4
    have q2 := pf (Wv l a a (box a a)) (by omega) 4
    show ([floorD (Wv (Wv l a a (box a a)) b b (box b b)), floorD (Wv l a a (box a a)), floorD (Wv l a a (box a a))].all (plainD 7) && decide (3 ≤ 100000)) = true
    simp [q1, q2])
  have r2 := same_refl 8 (.tuple [floorD S, floorD (Wv S H W S), .tuple [floorD S, floorD S]]) (by
    have q1 := pf S (by omega) 4
    have q2 := pf (Wv S H W S) (by omega) 4
    have q3 := pf S (by omega) 3
    have q4 : plainD 7 (.tuple [floorD S, floorD S]) = true := by
      show ([floorD S, floorD S].all (plainD 6) && decide (2 ≤ 100000)) = true
      simp [q3]
    show ([floorD S, floorD (Wv S H W S), .tuple [floorD S, floorD S]].all (plainD 7) && decide (3 ≤ 100000)) = true
    simp [q1, q2, q4])
  have r3 : (Wv (Wv S H W S) H W S).length ≤ 27 → m__law_same 8 [.tuple [floorD (Wv (Wv S H W S) H W S), floorD (Wv (Wv S H W S) H W S)], .tuple [floorD (Wv (Wv S H W S) H W S), floorD (Wv (Wv S H W S) H W S)]] = some (false, .bool true) := fun h => same_refl 8 _ (by
    have q1 := pf (Wv (Wv S H W S) H W S) (by omega) 4
    show ([floorD (Wv (Wv S H W S) H W S), floorD (Wv (Wv S H W S) H W S)].all (plainD 7) && decide (2 ≤ 100000)) = true
    simp [q1])
  have i1 := hc1.inner
  have i2 := hc2.inner
  have i3 := hc3.inner
  have i4 := hc4.inner
  have j0 := imm_floor l
  have j1 := imm_floor (Wv l a a (box a a))
  have j2 := imm_floor (Wv (Wv l a a (box a a)) b b (box b b))
  have j3 := imm_floor S
  have j4 := imm_floor (Wv S H W S)
  have j5 := imm_floor (Wv (Wv S H W S) H W S)
  have j6 := imm_floor (box a a)
  have k1 : H < 4 ∨ ¬ H < 4 := Classical.em _
  have k2 : W < 4 ∨ ¬ W < 4 := Classical.em _
  clear hc hc1 hc2 hc3 ss ne ln il fl ll x0 x1 y0 y1 ba bb bab aa b2 ab2 pa pb pab n1 n2 G GG as bH bW sub sl fS pS hS HH WW s2 V lV pf lG lGG
  generalize Wv (Wv l a a (box a a)) b b (box b b) = GG at *
  generalize Wv l a a (box a a) = G at *
  generalize Wv (Wv S H W S) H W S = V3 at *
  generalize Wv S H W S = V at *
  generalize box a a = BX at *
  generalize PyData.list (l.map fun q => PyData.int q.1) = RL at *
  generalize PyData.list (l.map fun q => PyData.int q.2) = CL at *
  generalize rmx l = RR at *
  generalize cmx l = CC at *
  have pre : l1_law (eW c (some (.sh i)) none none none none none none none none none none) = dIfS (dAndT (dCmpT cLt (dVar 8) (dC (.int 4))) (dCmpT cLt (dVar 9) (dC (.int 4)))) (dSeq (dSet 14 (dCall m_woven (dCons (dVar 13) (dCons (dVar 8) (dCons (dVar 9) (dCons (dVar 12) dNil)))))) (dIfS (dNotT (dTruT (dCall (m__law_same 8) (dCons (dTup (dCons (dCall m_woven_times (dCons (dVar 12) (dCons (dVar 8) (dCons (dVar 9) (dCons (dC (.int 3)) dNil))))) (dCons (dCall m_woven (dCons (dVar 12) (dCons (dBin bMul (dVar 8) (dVar 8)) (dCons (dBin bMul (dVar 9) (dVar 9)) (dCons (dVar 13) dNil))))) dNil))) (dCons (dTup (dCons (dVar 14) (dCons (dVar 14) dNil))) dNil))))) (dRet (dC (.bool false))) dNx)) dNx (eW c4 (some (.sh i)) (some (.sh (floorD l))) (iS a) (iS b) (some (.sh (floorD G))) (some (.sh (.tuple [floorD S, floorD V, .tuple [floorD S, floorD S]]))) (iS H) (iS W) (some (.sh (floorD S))) (some (.sh (floorD V))) none) := by
    unfold l1_law
    refine (dSeq_nx (ρ1 := eW c1 (some (.sh i)) (some (.sh (floorD l))) none none none none none none none none none) ?_).trans ?_
    · clear e2 e3 e4 ea eb g1 g2 g3 g4 g5 g6 mab eH eW' cS rm cm rl cl v1 v2 v3 v4 v5 mH mW r1 r2 r3 k1 k2
      walk_at "pd*"
    refine (dSeq_nx (ρ1 := eW c2 (some (.sh i)) (some (.sh (floorD l))) none none none none none none none none none) ?_).trans ?_
    · clear e1 e3 e4 ea eb g1 g2 g3 g4 g5 g6 mab eH eW' cS rm cm rl cl v1 v2 v3 v4 v5 mH mW r1 r2 r3 k1 k2
      walk_at "pd*"
    refine (dSeq_nx (ρ1 := eW c4 (some (.sh i)) (some (.sh (floorD l))) (iS a) (iS b) none none none none none none none) ?_).trans ?_
    · clear e1 e2 g1 g2 g3 g4 g5 g6 mab eH eW' cS rm cm rl cl v1 v2 v3 v4 v5 mH mW r1 r2 r3 k1 k2
      walk_at "pd*"
    refine (dSeq_nx (ρ1 := eW c4 (some (.sh i)) (some (.sh (floorD l))) (iS a) (iS b) (some (.sh (floorD G))) none none none none none none) ?_).trans ?_
    · clear e1 e2 e3 e4 ea eb g2 g3 g4 g5 g6 mab eH eW' cS rm cm rl cl v1 v2 v3 v4 v5 mH mW r1 r2 r3 k1 k2
      walk_at "pd*"
    refine (dSeq_nx (ρ1 := eW c4 (some (.sh i)) (some (.sh (floorD l))) (iS a) (iS b) (some (.sh (floorD G))) (some (.sh (.tuple [floorD GG, floorD G, floorD G]))) none none none none none) ?_).trans ?_
    · clear e1 e2 e3 e4 ea eb g1 g5 mab eH eW' cS rm cm rl cl v1 v2 v3 v4 v5 mH mW r1 r2 r3 k1 k2
      walk_at "pd*"
    refine (dSeq_nx (ρ1 := eW c4 (some (.sh i)) (some (.sh (floorD l))) (iS a) (iS b) (some (.sh (floorD G))) (some (.sh (.tuple [floorD GG, floorD G, floorD G]))) none none none none none) ?_).trans ?_
    · clear e1 e2 e3 e4 ea eb g1 g2 g3 g4 g6 eH eW' cS rm cm rl cl v1 v2 v3 v4 v5 mH mW r2 r3 k1 k2
      walk_at "pd*"
    refine (dSeq_nx (ρ1 := eW c4 (some (.sh i)) (some (.sh (floorD l))) (iS a) (iS b) (some (.sh (floorD G))) (some (.sh (.tuple [floorD GG, floorD G, floorD G]))) (iS H) (iS W) none none none) ?_).trans ?_
    · clear e1 e2 e3 e4 ea eb g1 g2 g3 g4 g5 g6 mab cS v1 v2 v3 v4 v5 mH mW r1 r2 r3 k1 k2
      walk_at "pd*"
    refine (dSeq_nx (ρ1 := eW c4 (some (.sh i)) (some (.sh (floorD l))) (iS a) (iS b) (some (.sh (floorD G))) (some (.sh (.tuple [floorD GG, floorD G, floorD G]))) (iS H) (iS W) (some (.sh (floorD S))) none none) ?_).trans ?_
    · clear e1 e2 e3 e4 ea eb g1 g2 g3 g4 g5 g6 mab eH eW' rm cm rl cl v1 v2 v3 v4 v5 mH mW r1 r2 r3 k1 k2
      have fo : floorD l = .tuple (l.map prD) := rfl
      rw [cS, fo]
      rw [fo] at j0
      clear fo cS
      walk_at "pd*"
    refine (dSeq_nx (ρ1 := eW c4 (some (.sh i)) (some (.sh (floorD l))) (iS a) (iS b) (some (.sh (floorD G))) (some (.sh (.tuple [floorD GG, floorD G, floorD G]))) (iS H) (iS W) (some (.sh (floorD S))) (some (.sh (floorD V))) none) ?_).trans ?_
    · clear e1 e2 e3 e4 ea eb g1 g2 g3 g4 g5 g6 mab eH eW' cS rm cm rl cl v2 v3 v4 v5 mH mW r1 r2 r3 k1 k2
      walk_at "pd*"
    refine (dSeq_nx (ρ1 := eW c4 (some (.sh i)) (some (.sh (floorD l))) (iS a) (iS b) (some (.sh (floorD G))) (some (.sh (.tuple [floorD S, floorD V, .tuple [floorD S, floorD S]]))) (iS H) (iS W) (some (.sh (floorD S))) (some (.sh (floorD V))) none) ?_).trans ?_
    · clear e1 e2 e3 e4 ea eb g1 g2 g3 g4 g5 g6 mab eH eW' cS rm cm rl cl v1 v3 v5 mH mW r1 r2 r3 k1 k2
      walk_at "pd*"
    refine (dSeq_nx (ρ1 := eW c4 (some (.sh i)) (some (.sh (floorD l))) (iS a) (iS b) (some (.sh (floorD G))) (some (.sh (.tuple [floorD S, floorD V, .tuple [floorD S, floorD S]]))) (iS H) (iS W) (some (.sh (floorD S))) (some (.sh (floorD V))) none) ?_).trans ?_
    · clear e1 e2 e3 e4 ea eb g1 g2 g3 g4 g5 g6 mab eH eW' cS rm cm rl cl v1 v2 v4 v5 mH mW r1 r3 k1 k2
      walk_at "pd*"
    rfl
  have fin : ∃ s14, l1_law (eW c (some (.sh i)) none none none none none none none none none none) = some (.nx (eW c4 (some (.sh i)) (some (.sh (floorD l))) (iS a) (iS b) (some (.sh (floorD G))) (some (.sh (.tuple [floorD S, floorD V, .tuple [floorD S, floorD S]]))) (iS H) (iS W) (some (.sh (floorD S))) (some (.sh (floorD V))) s14)) := by
    rw [pre]
    clear pre
    rcases k1 with k1 | k1
    · rcases k2 with k2 | k2
      · obtain ⟨v5, v6, v7, v8⟩ := v5 k1 k2
        have r3 := r3 v8
        have d1 : decide (H < 4) = true := decide_eq_true k1
        have d2 : decide (W < 4) = true := decide_eq_true k2
        refine ⟨some (.sh (floorD V3)), ?_⟩
        clear v8 k1 k2 e1 e2 e3 e4 ea eb g1 g2 g3 g4 g5 g6 mab eH eW' cS rm cm rl cl v1 v2 v3 v4 r1 r2
        walk_at "pd*"
      · have d1 : decide (H < 4) = true := decide_eq_true k1
        have d2 : decide (W < 4) = false := decide_eq_false k2
        refine ⟨none, ?_⟩
        clear k1 k2 e1 e2 e3 e4 ea eb g1 g2 g3 g4 g5 g6 mab eH eW' cS rm cm rl cl v1 v2 v3 v4 v5 r1 r2 r3 mH mW
        walk_at "pd*"
    · have d1 : decide (H < 4) = false := decide_eq_false k1
      refine ⟨none, ?_⟩
      clear k1 k2 e1 e2 e3 e4 ea eb g1 g2 g3 g4 g5 g6 mab eH eW' cS rm cm rl cl v1 v2 v3 v4 v5 r1 r2 r3 mH mW
      walk_at "pd*"
  obtain ⟨s14, fin⟩ := fin
  exact ⟨c4, turn_gN fin rfl, hc4⟩
theorem law_true (x y : Int) (hx : 0 ≤ x) (hy : 0 ≤ y) (hy2 : y < 10000000000) : ∃ ρ, b_law (En.only 15 1 (.own (.list [.int x, .int y]))) = some (.rt (.sh (.bool true)) ρ) := by
  have hc : Cup (.list [.int x, .int y]) := ⟨x, y, rfl, hx, hy, hy2⟩
  generalize PyData.list [.int x, .int y] = c at hc
  clear hx hy hy2
  obtain ⟨c', e, _⟩ := dFor_thr (fun c => eW c none none none none none none none none none none none) Cup (fi := dRg1 (dC (.int 4))) (tg := gN 2) (body := l1_law) (vs := [2, 3, 4, 5, 6, 7, 8, 9, 10, 11, 12, 13, 14]) (ds := rgD 0 4) (s0 := c) (rg1_at (n := 4) rfl (by decide)) hc fun d _ s hs => law_turn hs
  have e0 := d_rows_right
  have ew : En.only 15 1 (.own c) = eW c none none none none none none none none none none none := rfl
  rw [ew]
  clear ew
  refine ⟨eW c' none none none none none none none none none none none, ?_⟩
  have s1 : dIfS (dNotT (dTruT (dCall m__law_rows_right dNil))) (dRet (dC (.bool false))) dNx (eW c none none none none none none none none none none none) = some (.nx (eW c none none none none none none none none none none none)) := by
    clear e hc
    walk_at "pd*"
  have s2 : dRet (dC (.bool true)) (eW c' none none none none none none none none none none none) = some (.rt (.sh (.bool true)) (eW c' none none none none none none none none none none none)) := rfl
  unfold b_law
  exact (dSeq_nx s1).trans ((dSeq_nx e).trans s2)
end PD.K81
open PySem PySem.W PyProof.Rows
set_option maxHeartbeats 0 in
theorem PySem.Challenge.cw_cellgrounds_k81_weaves_of_weaves_holds : PySem.Challenge.rw_cellgrounds_k81_weaves_of_weaves.Holds := by
  w_on; o_law; k_head; (case hw => w_witness2)
  k_fill
  refine L2.walk_of (l := PySem.Challenge.rw_cellgrounds_k81_weaves_of_weaves) (n := 63) (k := 11) (x := "script") (CX := fun _ => L2.CX0) (sp := fun w => PD.spLaw _) rfl (by decide) rfl ⟨rfl, by decide, by decide⟩ (fun w h Y => PySem.W.kIn_of Y) ?F (fun _ _ a ns hl _ hS => ⟨a, ns, rfl, hS, hl, fun _ => rfl⟩) (fun _ _ _ _ _ h => h)
  case F =>
    intro w mg fa h KX G hmg
    refine' PD.K81.all_mk KX G hmg PD.K81.cup_made PD.K81.law_true ?a0 ?l0 ?c0 ?k0 ?a1 ?l1 ?c1 ?k1 ?a2 ?l2 ?c2 ?k2 ?a3 ?l3 ?c3 ?k3 ?a4 ?l4 ?c4 ?k4 ?a5 ?l5 ?c5 ?k5 ?a6 ?l6 ?c6 ?k6 ?a7 ?l7 ?c7 ?k7 ?a8 ?l8 ?c8 ?k8 ?a9 ?l9 ?c9 ?k9 ?a10 ?l10 ?c10 ?k10 ?a11 ?l11 ?c11 ?k11 ?a12 ?l12 ?c12 ?k12 ?a13 ?l13 ?c13 ?k13 ?a14 ?l14 ?c14 ?k14 ?a15 ?l15 ?c15 ?k15 ?a16 ?l16 ?c16 ?k16 ?a17 ?l17 ?c17 ?k17 ?a18 ?l18 ?c18 ?k18 ?a19 ?l19 ?c19 ?k19 ?a20 ?l20 ?c20 ?k20 ?a21 ?l21 ?c21 ?k21 ?a22 ?l22 ?c22 ?k22 ?a23 ?l23 ?c23 ?k23 ?a24 ?l24 ?c24 ?k24 ?a25 ?l25 ?c25 ?k25 ?a26 ?l26 ?c26 ?k26 ?a27 ?l27 ?c27 ?k27 ?a28 ?l28 ?c28 ?k28 ?a29 ?l29 ?c29 ?k29 ?a30 ?l30 ?c30 ?k30 ?z_abs ?z_all ?z_bool ?z_int ?z_isinstance ?z_len ?z_list ?z_max ?z_min ?z_range ?z_set ?z_sorted ?z_str ?z_tuple ?z_zip ?g_CELLS ?g_SIDE
    (case a0 => k_is); (case l0 => k_is); (case c0 => k_is); (case k0 => k_is); (case a1 => k_is); (case l1 => k_is); (case c1 => k_is); (case k1 => k_is); (case a2 => k_is); (case l2 => k_is); (case c2 => k_is); (case k2 => k_is); (case a3 => k_is); (case l3 => k_is); (case c3 => k_is); (case k3 => k_is); (case a4 => k_is); (case l4 => k_is); (case c4 => k_is); (case k4 => k_is); (case a5 => k_is); (case l5 => k_is); (case c5 => k_is); (case k5 => k_is); (case a6 => k_is); (case l6 => k_is); (case c6 => k_is); (case k6 => k_is); (case a7 => k_is); (case l7 => k_is); (case c7 => k_is); (case k7 => k_is); (case a8 => k_is); (case l8 => k_is); (case c8 => k_is); (case k8 => k_is); (case a9 => k_is); (case l9 => k_is); (case c9 => k_is); (case k9 => k_is); (case a10 => k_is); (case l10 => k_is); (case c10 => k_is); (case k10 => k_is); (case a11 => k_is); (case l11 => k_is); (case c11 => k_is); (case k11 => k_is); (case a12 => k_is); (case l12 => k_is); (case c12 => k_is); (case k12 => k_is); (case a13 => k_is); (case l13 => k_is); (case c13 => k_is); (case k13 => k_is); (case a14 => k_is); (case l14 => k_is); (case c14 => k_is); (case k14 => k_is); (case a15 => k_is); (case l15 => k_is); (case c15 => k_is); (case k15 => k_is); (case a16 => k_is); (case l16 => k_is); (case c16 => k_is); (case k16 => k_is); (case a17 => k_is); (case l17 => k_is); (case c17 => k_is); (case k17 => k_is); (case a18 => k_is); (case l18 => k_is); (case c18 => k_is); (case k18 => k_is); (case a19 => k_is); (case l19 => k_is); (case c19 => k_is); (case k19 => k_is); (case a20 => k_is); (case l20 => k_is); (case c20 => k_is); (case k20 => k_is); (case a21 => k_is); (case l21 => k_is); (case c21 => k_is); (case k21 => k_is); (case a22 => k_is); (case l22 => k_is); (case c22 => k_is); (case k22 => k_is); (case a23 => k_is); (case l23 => k_is); (case c23 => k_is); (case k23 => k_is); (case a24 => k_is); (case l24 => k_is); (case c24 => k_is); (case k24 => k_is); (case a25 => k_is); (case l25 => k_is); (case c25 => k_is); (case k25 => k_is); (case a26 => k_is); (case l26 => k_is); (case c26 => k_is); (case k26 => k_is); (case a27 => k_is); (case l27 => k_is); (case c27 => k_is); (case k27 => k_is); (case a28 => k_is); (case l28 => k_is); (case c28 => k_is); (case k28 => k_is); (case a29 => k_is); (case l29 => k_is); (case c29 => k_is); (case k29 => k_is); (case a30 => k_is); (case l30 => k_is); (case c30 => k_is); (case k30 => k_is); (case z_abs => k_is); (case z_all => k_is); (case z_bool => k_is); (case z_int => k_is); (case z_isinstance => k_is); (case z_len => k_is); (case z_list => k_is); (case z_max => k_is); (case z_min => k_is); (case z_range => k_is); (case z_set => k_is); (case z_sorted => k_is); (case z_str => k_is); (case z_tuple => k_is); (case z_zip => k_is); (case g_CELLS => k_is); (case g_SIDE => k_is)
