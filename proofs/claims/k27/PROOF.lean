import PyProof.Rows.All
import Wide.All
import OpenK.AllK
import Wide.FinOn
import HandS.ForMost
import HandS.Exc
import HandS.Lambda
import HandS.Defaults
import HandS.TupMul
import HandS.TupAny
import HandS.Wide
import HandS.Deep
import HandS.IsInst
import HandS.Star
import HandS.Codes
import PyProof.ReprRoads
import HandS.SetFor
import HandS.Style
import PyProof.ReprBulk
import PyProof.FitsInt
import PyProof.StrLawsRepr
import PyProof.Rows.ReprOcc
import KE.GoesEnum
import PyProof.StrOps2
import HandS.TupLe
import HandS.DictTup
import HandS.SortRule
import HandS.SortInts
import HandS.SortKw
import HandS.Sort
import KE.SortCalls
import HandS.Text
import HandS.Conv
import KE.KIndexOf
import HandS.More
import HandS.Set
import HandS.Zip
import HandS.ExcInit
import HandS.ExcField
import HandS.ExcIs
import HandS.ExcOwn
import HandS.TryMany
import KE.KExcIs
import HandS.WrittenGet
import HandS.TryOnly
import KE.DataMinMax
import HandS.Iter
import HandS.Dict
import HandS.RaiseMore
import HandS.ReplaceLit
import KE.SortKeyHeap
import KE.DataMinKey
import KE.SortUse
import HandS.DictComp
import KE.KDictZip
import KE.KDictPairs
import KE.GoesMore
import PyProof.TupleCall
import HandS.TupSets
import PyProof.EqKinds
import HandS.DictEq
import KE.KSetDisp
import HandS.SetIn
import PySem.Challenge.RW_oddlines_k27_whole_odd_sets_of_many_peop
set_option Elab.async false
set_option linter.all false
set_option maxRecDepth 100000
set_option maxHeartbeats 4000000
namespace Dt
open PySem PySem.Spec PyProof.Rows L2

abbrev Fg := PySem.W.Frag
abbrev AS := Addr → Prop
def Dsj (p q : AS) : Prop := ∀ a, p a → q a → False
theorem Dsj.symm {p q : AS} (h : Dsj p q) : Dsj q p := fun a x y => h a y x

def kD : Key → PyData
  | .inl i => .int i
  | .inr x => .str x

theorem Same.sqT {K : Fg} {H H' : Hp} {a : Addr} {xs : List V} (e : Same H H') (h : SqT K H a xs) : SqT K H' a xs := by
  rcases h with (h | ⟨o, h⟩) | h
  · exact .inl (.inl (e _ _ h))
  · exact .inl (.inr ⟨o, e _ _ h⟩)
  · exact .inr h

/-- a tuple that has no dict of its own -/
def SqP (K : Fg) (H : Hp) (a : Addr) (xs : List V) : Prop := (∃ o : Obj, H a = some (.frz o (.tup xs)) ∧ o.dict = none) ∨
  ∃ (o : Obj) (its : Array Value) (n : Nat), K.lookup a = some o ∧ o.cls = .type "tuple" ∧ o.dict = none ∧ o.data = .seq its n ∧ its.size ≤ sizeLine ∧ Vals xs its.toList
theorem SqP.t {K : Fg} {H : Hp} {a : Addr} {xs : List V} (h : SqP K H a xs) : SqT K H a xs := by
  rcases h with ⟨o, h, _⟩ | ⟨o, its, n, h1, h2, _, h3⟩
  · exact .inl (.inr ⟨o, h⟩)
  · exact .inr ⟨o, its, n, h1, h2, h3⟩
theorem Same.sqP {K : Fg} {H H' : Hp} {a : Addr} {xs : List V} (e : Same H H') (h : SqP K H a xs) : SqP K H' a xs := by
  rcases h with ⟨o, h, d⟩ | h
  · exact .inl ⟨o, e _ _ h, d⟩
  · exact .inr h
mutual
/-- v stands for the data d, all of it within the heap F -/
inductive Rep (K : Fg) (F : Hp) : V → PyData → Prop
  | none : Rep K F .non .none
  | bool (b : Bool) : Rep K F (.bl b) (.bool b)
  | int (i : Int) : Rep K F (.int i) (.int i)
  | str (x : Str) : Rep K F (.str x) (.str x)
  | tup {a : Addr} {vs : List V} {ds : List PyData} : SqP K F a vs → Reps K F vs ds → Rep K F (.ref a) (.tuple ds)
  | lst {a : Addr} {vs : List V} {ds : List PyData} : F a = some (.lst vs) → Reps K F vs ds → Rep K F (.ref a) (.list ds)
  | dct {a : Addr} {kvs : List (Key × V)} {ds : List (PyData × PyData)} : F a = some (.dK kvs) → RepKV K F kvs ds → Rep K F (.ref a) (.dict ds)
inductive Reps (K : Fg) (F : Hp) : List V → List PyData → Prop
  | nil : Reps K F [] []
  | cons {v : V} {d : PyData} {vs : List V} {ds : List PyData} : Rep K F v d → Reps K F vs ds → Reps K F (v :: vs) (d :: ds)
inductive RepKV (K : Fg) (F : Hp) : List (Key × V) → List (PyData × PyData) → Prop
  | nil : RepKV K F [] []
  | cons {k : Key} {v : V} {d : PyData} {kvs : List (Key × V)} {ds : List (PyData × PyData)} : Rep K F v d → RepKV K F kvs ds → RepKV K F ((k, v) :: kvs) ((kD k, d) :: ds)
end

mutual
theorem Rep.mono {K : Fg} {F F' : Hp} (e : Same F F') : ∀ {v : V} {d : PyData}, Rep K F v d → Rep K F' v d
  | _, _, .none => .none
  | _, _, .bool b => .bool b
  | _, _, .int i => .int i
  | _, _, .str x => .str x
  | _, _, .tup h r => .tup (Same.sqP e h) (Reps.mono e r)
  | _, _, .lst h r => .lst (e _ _ h) (Reps.mono e r)
  | _, _, .dct h r => .dct (e _ _ h) (RepKV.mono e r)
theorem Reps.mono {K : Fg} {F F' : Hp} (e : Same F F') : ∀ {v : List V} {d : List PyData}, Reps K F v d → Reps K F' v d
  | _, _, .nil => .nil
  | _, _, .cons h r => .cons (Rep.mono e h) (Reps.mono e r)
theorem RepKV.mono {K : Fg} {F F' : Hp} (e : Same F F') : ∀ {v : List (Key × V)} {d : List (PyData × PyData)}, RepKV K F v d → RepKV K F' v d
  | _, _, .nil => .nil
  | _, _, .cons h r => .cons (Rep.mono e h) (RepKV.mono e r)
end

/-- a thing of a def's own making that is only handed on: what holds of it and of its cells -/
structure Opq where
  R : Hp → V → List Addr → Prop
  mono : ∀ {H H' : Hp} {v : V} {cs : List Addr}, R H v cs → (∀ a, a ∈ cs → H' a = H a) → R H' v cs
  own : ∀ {H : Hp} {v : V} {cs : List Addr}, R H v cs → ∀ a, a ∈ cs → (∃ xs, H a = some (.lst xs)) ∨ ∃ kvs, H a = some (.dK kvs)
/-- what is owned: frozen data, a list of frozen data, dicts, instances -/
inductive OV where
  | fr (d : PyData)
  | lst (ds : List PyData)
  | dct (kvs : List (Key × OV))
  | dcT (kvs : List (List Key × PyData))
  | ins (C : Addr) (fs : List (Str × OV))
  /-- the script: read alone -/
  | scr (ns : List Int)
  /-- handed on alone -/
  | opq (o : Opq)

mutual
/-- v stands for o; fp: the cells that are owned -/
inductive RepO (K : Fg) (F H : Hp) : V → OV → AS → Prop
  | fr {v : V} {d : PyData} {fp : AS} : Rep K F v d → (∀ a, ¬ fp a) → RepO K F H v (.fr d) fp
  | lst {a : Addr} {vs : List V} {ds : List PyData} {fp : AS} : H a = some (.lst vs) → F a = none → Reps K F vs ds → (∀ b, fp b ↔ b = a) → RepO K F H (.ref a) (.lst ds) fp
  | dct {a : Addr} {kvs : List (Key × V)} {os : List (Key × OV)} {fp fp1 : AS} : H a = some (.dK kvs) → F a = none → RepOs K F H kvs os fp1 → ¬ fp1 a → (∀ b, fp b ↔ b = a ∨ fp1 b) → RepO K F H (.ref a) (.dct os) fp
  | dcT {a : Addr} {kvs : List (List Key × V)} {ds : List (List Key × PyData)} {fp : AS} : H a = some (.dT kvs) → F a = none → kvs.map (·.1) = ds.map (·.1) → Reps K F (kvs.map (·.2)) (ds.map (·.2)) → (∀ b, fp b ↔ b = a) → RepO K F H (.ref a) (.dcT ds) fp
  | ins {a C dx : Addr} {fs : List (Str × V)} {os : List (Str × OV)} {fp fp1 : AS} : H a = some (.ins C dx fs) → F a = none → RepOf K F H fs os fp1 → ¬ fp1 a → (∀ b, fp b ↔ b = a ∨ fp1 b) → RepO K F H (.ref a) (.ins C os) fp
  | scr {a : Addr} {o : Obj} {ns : List Int} {fp : AS} : H a = some (.frz o (.lst (ns.map V.int))) → F a = none → (∀ b, fp b ↔ b = a) → RepO K F H (.ref a) (.scr ns) fp
  | scrK {a : Addr} {ns : List Int} {fp : AS} : (∀ H', SqL K H' a (ns.map V.int)) → (∀ b, ¬ fp b) → RepO K F H (.ref a) (.scr ns) fp
  | opq {v : V} {o : Opq} {cs : List Addr} {fp : AS} : o.R H v cs → (∀ a, a ∈ cs → F a = none) → (∀ b, fp b ↔ b ∈ cs) → RepO K F H v (.opq o) fp
inductive RepOs (K : Fg) (F H : Hp) : List (Key × V) → List (Key × OV) → AS → Prop
  | nil {fp : AS} : (∀ a, ¬ fp a) → RepOs K F H [] [] fp
  | cons {k : Key} {v : V} {o : OV} {kvs : List (Key × V)} {os : List (Key × OV)} {fp fp1 fp2 : AS} : RepO K F H v o fp1 → RepOs K F H kvs os fp2 → Dsj fp1 fp2 → (∀ b, fp b ↔ fp1 b ∨ fp2 b) → RepOs K F H ((k, v) :: kvs) ((k, o) :: os) fp
inductive RepOf (K : Fg) (F H : Hp) : List (Str × V) → List (Str × OV) → AS → Prop
  | nil {fp : AS} : (∀ a, ¬ fp a) → RepOf K F H [] [] fp
  | cons {k : Str} {v : V} {o : OV} {kvs : List (Str × V)} {os : List (Str × OV)} {fp fp1 fp2 : AS} : RepO K F H v o fp1 → RepOf K F H kvs os fp2 → Dsj fp1 fp2 → (∀ b, fp b ↔ fp1 b ∨ fp2 b) → RepOf K F H ((k, v) :: kvs) ((k, o) :: os) fp
end

section
variable {K : Fg} {F F' H H' : Hp}
mutual
theorem RepO.mono (e : Same F F') : ∀ {v : V} {o : OV} {fp : AS}, RepO K F H v o fp → (∀ a, fp a → H' a = H a ∧ F' a = none) → RepO K F' H' v o fp
  | _, _, _, .fr h n, _ => .fr (h.mono e) n
  | _, _, _, .lst h n r f, k => .lst ((k _ ((f _).mpr rfl)).1.trans h) (k _ ((f _).mpr rfl)).2 (r.mono e) f
  | _, _, _, .dct h n r x f, k => .dct ((k _ ((f _).mpr (.inl rfl))).1.trans h) (k _ ((f _).mpr (.inl rfl))).2 (RepOs.mono e r fun a p => k a ((f a).mpr (.inr p))) x f
  | _, _, _, .dcT h n q r f, k => .dcT ((k _ ((f _).mpr rfl)).1.trans h) (k _ ((f _).mpr rfl)).2 q (r.mono e) f
  | _, _, _, .ins h n r x f, k => .ins ((k _ ((f _).mpr (.inl rfl))).1.trans h) (k _ ((f _).mpr (.inl rfl))).2 (RepOf.mono e r fun a p => k a ((f a).mpr (.inr p))) x f
  | _, _, _, .scr h n f, k => .scr ((k _ ((f _).mpr rfl)).1.trans h) (k _ ((f _).mpr rfl)).2 f
  | _, _, _, .scrK h n, _ => .scrK h n
  | _, .opq o, _, .opq h n f, k => .opq (o.mono h fun a ha => (k a ((f a).mpr ha)).1) (fun a ha => (k a ((f a).mpr ha)).2) f
theorem RepOs.mono (e : Same F F') : ∀ {v : List (Key × V)} {o : List (Key × OV)} {fp : AS}, RepOs K F H v o fp → (∀ a, fp a → H' a = H a ∧ F' a = none) → RepOs K F' H' v o fp
  | _, _, _, .nil h, _ => .nil h
  | _, _, _, .cons h r x f, k => .cons (RepO.mono e h fun a p => k a ((f a).mpr (.inl p))) (RepOs.mono e r fun a p => k a ((f a).mpr (.inr p))) x f
theorem RepOf.mono (e : Same F F') : ∀ {v : List (Str × V)} {o : List (Str × OV)} {fp : AS}, RepOf K F H v o fp → (∀ a, fp a → H' a = H a ∧ F' a = none) → RepOf K F' H' v o fp
  | _, _, _, .nil h, _ => .nil h
  | _, _, _, .cons h r x f, k => .cons (RepO.mono e h fun a p => k a ((f a).mpr (.inl p))) (RepOf.mono e r fun a p => k a ((f a).mpr (.inr p))) x f
end
mutual
/-- an owned cell stands in the heap, out of the frozen part -/
theorem RepO.out : ∀ {v : V} {o : OV} {fp : AS}, RepO K F H v o fp → ∀ a, fp a → F a = none ∧ H a ≠ none ∧ ∀ xs, H a ≠ some (.tup xs)
  | _, _, _, .fr h n, a, p => (n a p).elim
  | _, _, _, .lst h n r f, a, p => by
    have e := (f a).mp p
    subst e
    exact ⟨n, by rw [h]; simp, fun xs q => by rw [h] at q; cases q⟩
  | _, _, _, .dct h n r x f, a, p => by
    rcases (f a).mp p with e | q
    · subst e
      exact ⟨n, by rw [h]; simp, fun xs q => by rw [h] at q; cases q⟩
    · exact RepOs.out r a q
  | _, _, _, .dcT h n q r f, a, p => by
    have e := (f a).mp p
    subst e
    exact ⟨n, by rw [h]; simp, fun xs q => by rw [h] at q; cases q⟩
  | _, _, _, .ins h n r x f, a, p => by
    rcases (f a).mp p with e | q
    · subst e
      exact ⟨n, by rw [h]; simp, fun xs q => by rw [h] at q; cases q⟩
    · exact RepOf.out r a q
  | _, _, _, .scr h n f, a, p => by
    have e := (f a).mp p
    subst e
    exact ⟨n, by rw [h]; simp, fun xs q => by rw [h] at q; cases q⟩
  | _, _, _, .scrK h n, a, p => (n a p).elim
  | _, .opq o, _, .opq h n f, a, p => by
    refine ⟨n a ((f a).mp p), ?_, fun xs q => ?_⟩
    · rcases o.own h a ((f a).mp p) with ⟨xs, e⟩ | ⟨xs, e⟩ <;> rw [e] <;> simp
    · rcases o.own h a ((f a).mp p) with ⟨xs, e⟩ | ⟨xs, e⟩ <;> rw [e] at q <;> cases q
theorem RepOs.out : ∀ {v : List (Key × V)} {o : List (Key × OV)} {fp : AS}, RepOs K F H v o fp → ∀ a, fp a → F a = none ∧ H a ≠ none ∧ ∀ xs, H a ≠ some (.tup xs)
  | _, _, _, .nil h, a, p => (h a p).elim
  | _, _, _, .cons h r x f, a, p => by
    rcases (f a).mp p with q | q
    · exact RepO.out h a q
    · exact RepOs.out r a q
theorem RepOf.out : ∀ {v : List (Str × V)} {o : List (Str × OV)} {fp : AS}, RepOf K F H v o fp → ∀ a, fp a → F a = none ∧ H a ≠ none ∧ ∀ xs, H a ≠ some (.tup xs)
  | _, _, _, .nil h, a, p => (h a p).elim
  | _, _, _, .cons h r x f, a, p => by
    rcases (f a).mp p with q | q
    · exact RepO.out h a q
    · exact RepOf.out r a q
end
end

/-! ### the view as data -/
mutual
def OV.toD : OV → PyData
  | .fr d => d
  | .lst ds => .list ds
  | .dct kvs => .dict (OV.toDs kvs)
  | .dcT kvs => .dict (kvs.map fun p => (.tuple (p.1.map kD), p.2))
  | .ins _ _ => .none
  | .scr ns => .list (ns.map .int)
  | .opq _ => .none
def OV.toDs : List (Key × OV) → List (PyData × PyData)
  | [] => []
  | (k, o) :: r => (kD k, o.toD) :: OV.toDs r
end
/-! no instance, no dict with tuple keys within -/
mutual
def OV.isD : OV → Bool
  | .fr _ => true
  | .lst _ => true
  | .dct kvs => OV.isDs kvs
  | .dcT _ => false
  | .ins _ _ => false
  | .scr _ => false
  | .opq _ => false
def OV.isDs : List (Key × OV) → Bool
  | [] => true
  | (_, o) :: r => o.isD && OV.isDs r
end

section
variable {K : Fg} {F H : Hp}
mutual
theorem RepO.dat (le : Same F H) : ∀ {v : V} {o : OV} {fp : AS}, RepO K F H v o fp → o.isD = true → Rep K H v o.toD
  | _, _, _, .fr h n, _ => h.mono le
  | _, _, _, .lst h n r f, _ => .lst h (r.mono le)
  | _, _, _, .dct h n r x f, e => .dct h (RepOs.dat le r e)
  | _, _, _, .dcT _ _ _ _ _, e => by cases e
  | _, _, _, .ins _ _ _ _ _, e => by cases e
  | _, _, _, .scr _ _ _, e => by cases e
  | _, _, _, .scrK _ _, e => by cases e
  | _, _, _, .opq _ _ _, e => by cases e
theorem RepOs.dat (le : Same F H) : ∀ {v : List (Key × V)} {o : List (Key × OV)} {fp : AS}, RepOs K F H v o fp → OV.isDs o = true → RepKV K H v (OV.toDs o)
  | _, _, _, .nil h, _ => .nil
  | _, _, _, .cons h r x f, e => by
    have e2 := Bool.and_eq_true_iff.mp e
    exact .cons (RepO.dat le h e2.1) (RepOs.dat le r e2.2)
end
end
/-- no table -/
abbrev NoTb (o : Option HO) : Prop := ∀ ps, o ≠ some (.tbl ps)
section
variable {K : Fg} {F F' H H' : Hp}
mutual
theorem RepO.noT : ∀ {v : V} {o : OV} {fp : AS}, RepO K F H v o fp → ∀ a, fp a → NoTb (H a)
  | _, _, _, .fr h n, a, p => (n a p).elim
  | _, _, _, .lst h n r f, a, p => by
    have e := (f a).mp p
    subst e
    exact fun xs q => by rw [h] at q; cases q
  | _, _, _, .dct h n r x f, a, p => by
    rcases (f a).mp p with e | q
    · subst e
      exact fun xs q => by rw [h] at q; cases q
    · exact RepOs.noT r a q
  | _, _, _, .dcT h n q r f, a, p => by
    have e := (f a).mp p
    subst e
    exact fun xs q => by rw [h] at q; cases q
  | _, _, _, .ins h n r x f, a, p => by
    rcases (f a).mp p with e | q
    · subst e
      exact fun xs q => by rw [h] at q; cases q
    · exact RepOf.noT r a q
  | _, _, _, .scr h n f, a, p => by
    have e := (f a).mp p
    subst e
    exact fun xs q => by rw [h] at q; cases q
  | _, _, _, .scrK h n, a, p => (n a p).elim
  | _, .opq o, _, .opq h n f, a, p => fun ps q => by
    rcases o.own h a ((f a).mp p) with ⟨xs, e⟩ | ⟨xs, e⟩ <;> rw [e] at q <;> cases q
theorem RepOs.noT : ∀ {v : List (Key × V)} {o : List (Key × OV)} {fp : AS}, RepOs K F H v o fp → ∀ a, fp a → NoTb (H a)
  | _, _, _, .nil h, a, p => (h a p).elim
  | _, _, _, .cons h r x f, a, p => by
    rcases (f a).mp p with q | q
    · exact RepO.noT h a q
    · exact RepOs.noT r a q
theorem RepOf.noT : ∀ {v : List (Str × V)} {o : List (Str × OV)} {fp : AS}, RepOf K F H v o fp → ∀ a, fp a → NoTb (H a)
  | _, _, _, .nil h, a, p => (h a p).elim
  | _, _, _, .cons h r x f, a, p => by
    rcases (f a).mp p with q | q
    · exact RepO.noT h a q
    · exact RepOf.noT r a q
end
end
/-- no other thing -/
abbrev NoEx (o : Option HO) : Prop := ∀ φ, o ≠ some (.ext φ)
section
variable {K : Fg} {F F' H H' : Hp}
mutual
theorem RepO.noE : ∀ {v : V} {o : OV} {fp : AS}, RepO K F H v o fp → ∀ a, fp a → NoEx (H a)
  | _, _, _, .fr h n, a, p => (n a p).elim
  | _, _, _, .lst h n r f, a, p => by
    have e := (f a).mp p
    subst e
    exact fun xs q => by rw [h] at q; cases q
  | _, _, _, .dct h n r x f, a, p => by
    rcases (f a).mp p with e | q
    · subst e
      exact fun xs q => by rw [h] at q; cases q
    · exact RepOs.noE r a q
  | _, _, _, .dcT h n q r f, a, p => by
    have e := (f a).mp p
    subst e
    exact fun xs q => by rw [h] at q; cases q
  | _, _, _, .ins h n r x f, a, p => by
    rcases (f a).mp p with e | q
    · subst e
      exact fun xs q => by rw [h] at q; cases q
    · exact RepOf.noE r a q
  | _, _, _, .scr h n f, a, p => by
    have e := (f a).mp p
    subst e
    exact fun xs q => by rw [h] at q; cases q
  | _, _, _, .scrK h n, a, p => (n a p).elim
  | _, .opq o, _, .opq h n f, a, p => fun ps q => by
    rcases o.own h a ((f a).mp p) with ⟨xs, e⟩ | ⟨xs, e⟩ <;> rw [e] at q <;> cases q
theorem RepOs.noE : ∀ {v : List (Key × V)} {o : List (Key × OV)} {fp : AS}, RepOs K F H v o fp → ∀ a, fp a → NoEx (H a)
  | _, _, _, .nil h, a, p => (h a p).elim
  | _, _, _, .cons h r x f, a, p => by
    rcases (f a).mp p with q | q
    · exact RepO.noE h a q
    · exact RepOs.noE r a q
theorem RepOf.noE : ∀ {v : List (Str × V)} {o : List (Str × OV)} {fp : AS}, RepOf K F H v o fp → ∀ a, fp a → NoEx (H a)
  | _, _, _, .nil h, a, p => (h a p).elim
  | _, _, _, .cons h r x f, a, p => by
    rcases (f a).mp p with q | q
    · exact RepO.noE h a q
    · exact RepOf.noE r a q
end
end
end Dt

namespace Dt
open PySem PySem.Spec PyProof.Rows L2

/-! ### the state of a def: frozen heap F within H, slots, what is owned -/
abbrev St := L2.St
abbrev Env := List (Option OV)
abbrev Fps := Nat → AS
/-- what leaves a def: an exception's class, its fields -/
structure Exc where
  cls : Str
  fs : List (Str × PyData)
/-- the tables of code objects; where the own exception classes stand -/
structure Tbl where
  l : List (Addr × Str)
  cx : Str → Addr
structure Pins where
  l : List (Option V)
  T : Tbl
  XE : Exc → Env → Prop
  W : WX
def Pins.no (T : Tbl) : Pins := ⟨[], T, fun _ _ => False, fun _ _ _ _ => False⟩
def isTb (o : Option HO) : Prop := ∃ ps, o = some (.tbl ps)
/-- as it was, but a table may have grown -/
def Kp (x y : Option HO) : Prop := y = x ∨ (isTb x ∧ isTb y)
theorem Kp.refl (x : Option HO) : Kp x x := .inl rfl
theorem Kp.trans {x y z : Option HO} (a : Kp x y) (b : Kp y z) : Kp x z := by
  rcases a with rfl | ⟨a1, a2⟩
  · exact b
  · rcases b with rfl | ⟨_, b2⟩
    · exact .inr ⟨a1, a2⟩
    · exact .inr ⟨a1, b2⟩
theorem Kp.ne {x y : Option HO} (a : Kp x y) (h : x ≠ none) : y ≠ none := by
  rcases a with rfl | ⟨_, ⟨ps, rfl⟩⟩
  · exact h
  · exact fun z => by cases z
theorem Kp.eq {x y : Option HO} (a : Kp x y) (h : NoTb x) : y = x := by
  rcases a with rfl | ⟨⟨ps, rfl⟩, _⟩
  · rfl
  · exact (h ps rfl).elim
theorem Kp.no {x y : Option HO} (a : Kp x y) (h : NoTb x) : NoTb y := by rw [a.eq h]; exact h

structure Sta (K : Fg) (pv : Pins) (F H : Hp) (σ : St) (ρ : Env) (fps : Fps) : Prop where
  le : Same F H
  len : ρ.length = σ.length
  rep : ∀ (i : Nat) (o : OV), ρ[i]? = some (some o) → ∃ v, σ[i]? = some (some v) ∧ RepO K F H v o (fps i)
  dis : ∀ (i j : Nat) (o o' : OV), i ≠ j → ρ[i]? = some (some o) → ρ[j]? = some (some o') → Dsj (fps i) (fps j)
  pin : ∀ (i : Nat) (v : V), pv.l[i]? = some (some v) → σ[i]? = some (some v)
  nt : ∀ a, NoTb (F a)
  tab : LamX.Tabs pv.T.l H

def own (ρ : Env) (fps : Fps) : AS := fun a => ∃ (i : Nat) (o : OV), ρ[i]? = some (some o) ∧ fps i a
def orA (p q : AS) : AS := fun a => p a ∨ q a
def noA : AS := fun _ => False

structure Step (F H : Hp) (ow : AS) (F' H' : Hp) (ow' : AS) : Prop where
  le : Same F F'
  fr : ∀ a, H a ≠ none → F a = none → ¬ ow a → Kp (H a) (H' a) ∧ F' a = none ∧ ¬ ow' a

theorem Step.refl (F H : Hp) (ow : AS) : Step F H ow F H ow := ⟨Same.refl F, fun _ _ h2 h3 => ⟨.refl _, h2, h3⟩⟩
theorem Step.trans {F H F1 H1 F2 H2 : Hp} {ow ow1 ow2 : AS} (a : Step F H ow F1 H1 ow1) (b : Step F1 H1 ow1 F2 H2 ow2) : Step F H ow F2 H2 ow2 :=
  ⟨a.le.trans b.le, fun c h1 h2 h3 => by
    obtain ⟨q1, q2, q3⟩ := a.fr c h1 h2 h3
    obtain ⟨r1, r2, r3⟩ := b.fr c (q1.ne h1) q2 q3
    exact ⟨q1.trans r1, r2, r3⟩⟩
theorem Step.less {F H F1 H1 : Hp} {ow ow1 ow2 : AS} (a : Step F H ow F1 H1 ow1) (h : ∀ c, ow2 c → ow1 c) : Step F H ow F1 H1 ow2 :=
  ⟨a.le, fun c h1 h2 h3 => by
    obtain ⟨q1, q2, q3⟩ := a.fr c h1 h2 h3
    exact ⟨q1, q2, fun z => q3 (h c z)⟩⟩
/-- what came first and stands aside while the second step goes -/
theorem Step.aside {F H F1 H1 F2 H2 : Hp} {ow ow1 ow2 t1 t2 : AS} (a : Step F H ow F1 H1 (orA ow1 t1)) (b : Step F1 H1 ow1 F2 H2 (orA ow2 t2))  :
    Step F H ow F2 H2 (orA ow2 (orA t1 t2)) :=
  ⟨a.le.trans b.le, fun c h1 h2 h3 => by
    obtain ⟨q1, q2, q3⟩ := a.fr c h1 h2 h3
    obtain ⟨r1, r2, r3⟩ := b.fr c (q1.ne h1) q2 fun z => q3 (.inl z)
    refine ⟨q1.trans r1, r2, ?_⟩
    rintro (z | z | z)
    · exact r3 (.inl z)
    · exact q3 (.inr z)
    · exact r3 (.inr z)⟩

/-! ### paths into what is owned -/
inductive PK where
  | key (k : Key)
  | att (f : Str)

def OV.sub : OV → PK → Option OV
  | .dct kvs, .key k => kvs.lookup k
  | .ins _ fs, .att f => fs.lookup f
  | _, _ => none
def OV.get : OV → List PK → Option OV
  | o, [] => some o
  | o, p :: ps => match o.sub p with
    | some o' => o'.get ps
    | none => none
/-- the heap's own way -/
def Walk (H : Hp) : V → List PK → V → Prop
  | u, [], v => v = u
  | u, .key k :: ps, v => ∃ a kvs w, u = .ref a ∧ H a = some (.dK kvs) ∧ kvs.lookup k = some w ∧ Walk H w ps v
  | u, .att f :: ps, v => ∃ a C dx fs w, u = .ref a ∧ H a = some (.ins C dx fs) ∧ fs.lookup f = some w ∧ Walk H w ps v

section
variable {K : Fg} {F H : Hp}
theorem RepOs.look {k : Key} {o : OV} : ∀ {kvs : List (Key × V)} {os : List (Key × OV)} {fp : AS}, RepOs K F H kvs os fp → os.lookup k = some o → ∃ v fp', kvs.lookup k = some v ∧ RepO K F H v o fp' ∧ ∀ a, fp' a → fp a
  | _, _, _, .nil _, e => by cases e
  | _, _, _, .cons (k := k1) h r x f, e => by
    rw [List.lookup_cons] at e ⊢
    cases hk : k == k1 with
    | true =>
      rw [hk] at e
      cases e
      exact ⟨_, _, rfl, h, fun a p => (f a).mpr (.inl p)⟩
    | false =>
      rw [hk] at e
      obtain ⟨v, fp', e1, e2, e3⟩ := RepOs.look r e
      exact ⟨v, fp', e1, e2, fun a p => (f a).mpr (.inr (e3 a p))⟩
theorem RepOf.look {k : Str} {o : OV} : ∀ {kvs : List (Str × V)} {os : List (Str × OV)} {fp : AS}, RepOf K F H kvs os fp → os.lookup k = some o → ∃ v fp', kvs.lookup k = some v ∧ RepO K F H v o fp' ∧ ∀ a, fp' a → fp a
  | _, _, _, .nil _, e => by cases e
  | _, _, _, .cons (k := k1) h r x f, e => by
    rw [List.lookup_cons] at e ⊢
    cases hk : k == k1 with
    | true =>
      rw [hk] at e
      cases e
      exact ⟨_, _, rfl, h, fun a p => (f a).mpr (.inl p)⟩
    | false =>
      rw [hk] at e
      obtain ⟨v, fp', e1, e2, e3⟩ := RepOf.look r e
      exact ⟨v, fp', e1, e2, fun a p => (f a).mpr (.inr (e3 a p))⟩
theorem RepO.at_walk : ∀ {ps : List PK} {u v : V} {o o' : OV} {fp : AS}, RepO K F H u o fp → Walk H u ps v → o.get ps = some o' → ∃ fp', RepO K F H v o' fp' ∧ ∀ a, fp' a → fp a
  | [], u, v, o, o', fp, h, w, e => by
    have w' : v = u := w
    subst w'
    cases e
    exact ⟨fp, h, fun _ p => p⟩
  | .key k :: ps, u, v, o, o', fp, h, w, e => by
    obtain ⟨a, kvs, w1, rfl, hH, hl, w⟩ := w
    cases h with
    | dct h1 n r x f =>
      rename_i kvs1 os fp1
      rw [hH] at h1
      cases h1
      unfold OV.get OV.sub at e
      cases hs : os.lookup k with
      | none => simp only [hs] at e; cases e
      | some o1 =>
        simp only [hs] at e
        obtain ⟨v1, fp', e1, e2, e3⟩ := r.look hs
        rw [hl] at e1
        cases e1
        obtain ⟨fp2, q1, q2⟩ := RepO.at_walk e2 w e
        exact ⟨fp2, q1, fun b p => (f b).mpr (.inr (e3 b (q2 b p)))⟩
    | fr _ _ => unfold OV.get OV.sub at e; cases e
    | lst _ _ _ _ => unfold OV.get OV.sub at e; cases e
    | dcT _ _ _ _ _ => unfold OV.get OV.sub at e; cases e
    | ins _ _ _ _ _ => unfold OV.get OV.sub at e; cases e
    | scr _ _ _ => unfold OV.get OV.sub at e; cases e
    | scrK _ _ => unfold OV.get OV.sub at e; cases e
    | opq _ _ _ => unfold OV.get OV.sub at e; cases e
  | .att k :: ps, u, v, o, o', fp, h, w, e => by
    obtain ⟨a, C, dx, kvs, w1, rfl, hH, hl, w⟩ := w
    cases h with
    | ins h1 n r x f =>
      rename_i C1 dx1 kvs1 os fp1
      rw [hH] at h1
      cases h1
      unfold OV.get OV.sub at e
      cases hs : os.lookup k with
      | none => simp only [hs] at e; cases e
      | some o1 =>
        simp only [hs] at e
        obtain ⟨v1, fp', e1, e2, e3⟩ := r.look hs
        rw [hl] at e1
        cases e1
        obtain ⟨fp2, q1, q2⟩ := RepO.at_walk e2 w e
        exact ⟨fp2, q1, fun b p => (f b).mpr (.inr (e3 b (q2 b p)))⟩
    | fr _ _ => unfold OV.get OV.sub at e; cases e
    | lst _ _ _ _ => unfold OV.get OV.sub at e; cases e
    | dcT _ _ _ _ _ => unfold OV.get OV.sub at e; cases e
    | dct _ _ _ _ _ => unfold OV.get OV.sub at e; cases e
    | scr _ _ _ => unfold OV.get OV.sub at e; cases e
    | scrK _ _ => unfold OV.get OV.sub at e; cases e
    | opq _ _ _ => unfold OV.get OV.sub at e; cases e
end

/-! ### results -/
inductive Res where
  /-- clean: frozen data -/
  | cl (d : PyData)
  /-- fresh: owned by nobody else -/
  | fr (o : OV)
  /-- what stands in a slot, at a path -/
  | sl (i : Nat) (p : List PK)

def Res.deep : Res → Bool
  | .sl _ (_ :: _) => true
  | _ => false
/-- what it is now -/
def Res.ov (ρ : Env) : Res → Option OV
  | .cl d => some (.fr d)
  | .fr o => some o
  | .sl i p => match ρ[i]? with
    | some (some o) => o.get p
    | _ => none
/-- as data to be read -/
def Res.dat (ρ : Env) (r : Res) : Option PyData := match r.ov ρ with
  | some o => if o.isD = true then some o.toD else none
  | none => none

def RepR (K : Fg) (F H : Hp) (σ : St) (ow : AS) (v : V) (r : Res) (fpr : AS) : Prop := match r with
  | .cl d => Rep K F v d ∧ ∀ a, ¬ fpr a
  | .fr o => RepO K F H v o fpr ∧ Dsj fpr ow
  | .sl i p => (∃ u, σ[i]? = some (some u) ∧ Walk H u p v) ∧ ∀ a, ¬ fpr a

/-- an exception as it stands -/
def RepX (K : Fg) (F : Hp) (x : Exc) (d : Option Addr) : Prop := match d with
  | none => x.fs = []
  | some a => ∃ vs : List (Str × V), F a = some (.xd vs) ∧ vs.map (·.1) = x.fs.map (·.1) ∧ Reps K F (vs.map (·.2)) (x.fs.map (·.2))
/-- what is wished of an exception that leaves -/
def Exq (K : Fg) (pv : Pins) (F H : Hp) (ow : AS) : Prop := ∀ (x : Exc) (ρ' : Env) (σ' : St) (d : Option Addr) (F' H' : Hp) (fps' : Fps), pv.XE x ρ' → Sta K pv F' H' σ' ρ' fps' → Step F H ow F' H' (own ρ' fps') → RepX K F' x d → pv.W (.ref (pv.T.cx x.cls)) d σ' H'
theorem Exq.latr {K : Fg} {pv : Pins} {F H F1 H1 : Hp} {ow ow1 : AS} (e : Exq K pv F H ow) (s : Step F H ow F1 H1 ow1) : Exq K pv F1 H1 ow1 := fun x ρ' σ' d F' H' fps' h S s' r => e x ρ' σ' d F' H' fps' h S (s.trans s') r
theorem Exq.later {K : Fg} {pv : Pins} {F H F1 H1 : Hp} {ow ow1 f : AS} (e : Exq K pv F H ow) (s : Step F H ow F1 H1 (orA ow1 f)) : Exq K pv F1 H1 ow1 := e.latr (s.less fun _ => .inl)

theorem Exq.upd {K : Fg} {pv : Pins} {F H : Hp} {ow : AS} (e : Exq K pv F H ow) {p : Addr} {o : HO} (hp : H p = none) : Exq K pv F (upd H p o) ow := fun x ρ' σ' d F' H' fps' h S s r => e x ρ' σ' d F' H' fps' h S ⟨s.le, fun a h1 h2 h3 => by
  have ne : a ≠ p := fun z => by subst z; exact h1 hp
  obtain ⟨q1, q2, q3⟩ := s.fr a (by rw [upd_ne ne]; exact h1) h2 h3
  rw [upd_ne ne] at q1
  exact ⟨q1, q2, q3⟩⟩ r
abbrev DE := Env → (Bool → Res → Env → Prop) → Prop
def lift (K : Fg) (pv : Pins) (g : DE) : TE := fun σ H Q => ∃ (ρ : Env) (F : Hp) (fps : Fps) (Q0 : Bool → Res → Env → Prop), Sta K pv F H σ ρ fps ∧ Exq K pv F H (own ρ fps) ∧ g ρ Q0 ∧
  ∀ q r ρ' v H' F' fps' fpr, Q0 q r ρ' → Sta K pv F' H' σ ρ' fps' → Step F H (own ρ fps) F' H' (orA (own ρ' fps') fpr) → RepR K F' H' σ (own ρ' fps') v r fpr →
    (q = true → LamX.ExtN H H' ∧ ρ' = ρ ∧ fps' = fps) → Q v H'

/-- e is evaluated as g tells -/
def DEv (X : Cx) (pv : Pins) (e : Expr) (g : DE) : Prop := PE X e (lift X.K pv g)

/-- a reading that follows from another -/
theorem PE.to {X : Cx} {e : Expr} {t t' : TE} (h : PE X e t) (i : ∀ σ H Q, t' σ H Q → t σ H Q) : PE X e t' := ⟨fun pins s σ H Q I q => h.run pins s σ H Q I (i σ H Q q)⟩
theorem PT.to {X : Cx} {e : Expr} {t t' : TT} (h : PT X e t) (i : ∀ σ H Q, t' σ H Q → t σ H Q) : PT X e t' := ⟨fun pins s σ H Q I q => h.run pins s σ H Q I (i σ H Q q)⟩
theorem PA.to {X : Cx} {e : List Expr} {t t' : TA} (h : PA X e t) (i : ∀ σ H Q, t' σ H Q → t σ H Q) : PA X e t' := ⟨fun p pins s σ H Q I q => h.run p pins s σ H Q I (i σ H Q q)⟩
theorem PS.to {X : Cx} {e : Stmt} {t t' : TS} (h : PS X e t) (i : ∀ D σ H, t' D σ H → t D σ H) : PS X e t' := ⟨fun pins s σ H Q I q => h.run pins s σ H Q I (i Q σ H q)⟩
theorem PSs.to {X : Cx} {e : List Stmt} {t t' : TS} (h : PSs X e t) (i : ∀ D σ H, t' D σ H → t D σ H) : PSs X e t' := ⟨fun pins s σ H Q I q => h.run pins s σ H Q I (i Q σ H q)⟩

/-! ### the state changed -/
section
variable {K : Fg} {pv : Pins} {F H F' H' : Hp} {σ : St} {ρ : Env} {fps : Fps}
theorem Sta.ow_out (S : Sta K pv F H σ ρ fps) {a : Addr} (h : own ρ fps a) : F a = none ∧ H a ≠ none ∧ ∀ xs, H a ≠ some (.tup xs) := by
  obtain ⟨i, o, e, p⟩ := h
  obtain ⟨v, _, r⟩ := S.rep i o e
  exact r.out a p
theorem Sta.ow_noT (S : Sta K pv F H σ ρ fps) {a : Addr} (h : own ρ fps a) : NoTb (H a) := by
  obtain ⟨i, o, e, p⟩ := h
  obtain ⟨v, _, r⟩ := S.rep i o e
  exact r.noT a p
theorem Sta.ow_noE (S : Sta K pv F H σ ρ fps) {a : Addr} (h : own ρ fps a) : NoEx (H a) := by
  obtain ⟨i, o, e, p⟩ := h
  obtain ⟨v, _, r⟩ := S.rep i o e
  exact r.noE a p
theorem Tabs.aside {T : List (Addr × Str)} {D : Addr} {o : HO} (t : LamX.Tabs T H) (nD : NoTb (H D)) (hC : NoEx (H D)) : LamX.Tabs T (upd H D o) := fun q hq => by
  obtain ⟨ps, h1, h2, h3⟩ := t q hq
  have ne : q.1 ≠ D := fun z => by rw [z] at h1; exact nD ps h1
  refine ⟨ps, by rw [upd_ne ne]; exact h1, h2, fun pos cv e => ?_⟩
  obtain ⟨c, e1, e2⟩ := h3 pos cv e
  exact ⟨c, e1, by rw [upd_ne (fun z => by subst z; exact hC _ e2)]; exact e2⟩
/-- the heap grows, nothing owned is touched -/
theorem Sta.grow (S : Sta K pv F H σ ρ fps) (e : Same F F') (le : Same F' H') (nt : ∀ a, NoTb (F' a)) (tb : LamX.Tabs pv.T.l H') (k : ∀ a, own ρ fps a → H' a = H a ∧ F' a = none) : Sta K pv F' H' σ ρ fps :=
  ⟨le, S.len, fun i o h => by
    obtain ⟨v, h1, h2⟩ := S.rep i o h
    exact ⟨v, h1, h2.mono e fun a p => k a ⟨i, o, h, p⟩⟩, S.dis, S.pin, nt, tb⟩
/-- fewer things told -/
theorem Sta.wk (S : Sta K pv F H σ ρ fps) {ρ' : Env} (hl : ρ'.length = ρ.length) (h : ∀ (i : Nat) (o : OV), ρ'[i]? = some (some o) → ρ[i]? = some (some o)) : Sta K pv F H σ ρ' fps :=
  ⟨S.le, hl.trans S.len, fun i o e => S.rep i o (h i o e), fun i j o o' n e e' => S.dis i j o o' n (h i o e) (h j o' e'), S.pin, S.nt, S.tab⟩
end
/-- F and what stands in H at the cells fp -/
noncomputable def addF (F H : Hp) (fp : AS) : Hp := open Classical in fun a => if fp a then H a else F a
theorem addF_in {F H : Hp} {fp : AS} {a : Addr} (h : fp a) : addF F H fp a = H a := by unfold addF; rw [if_pos h]
theorem addF_no {F H : Hp} {fp : AS} {a : Addr} (h : ¬ fp a) : addF F H fp a = F a := by unfold addF; rw [if_neg h]
theorem addF_le {F H : Hp} {fp : AS} (le : Same F H) : Same (addF F H fp) H := fun a o e => by
  by_cases h : fp a
  · rw [addF_in h] at e; exact e
  · rw [addF_no h] at e; exact le a o e
theorem addF_ge {F H : Hp} {fp : AS} (n : ∀ a, fp a → F a = none) : Same F (addF F H fp) := fun a o e => by
  by_cases h : fp a
  · rw [n a h] at e; cases e
  · rw [addF_no h]; exact e
theorem addF_noT {F H : Hp} {fp : AS} (n : ∀ a, NoTb (F a)) (m : ∀ a, fp a → NoTb (H a)) : ∀ a, NoTb (addF F H fp a) := fun a => by
  by_cases h : fp a
  · rw [addF_in h]; exact m a h
  · rw [addF_no h]; exact n a
section
variable {K : Fg} {F H : Hp}
mutual
/-- what was owned is frozen -/
theorem RepO.freeze {F2 : Hp} (le : Same F F2) : ∀ {v : V} {o : OV} {fp : AS}, RepO K F H v o fp → (∀ a, fp a → F2 a = H a) → o.isD = true → Rep K F2 v o.toD
  | _, _, _, .fr h n, _, _ => h.mono le
  | _, _, _, .lst h n r f, k, _ => .lst ((k _ ((f _).mpr rfl)).trans h) (r.mono le)
  | _, _, _, .dct h n r x f, k, e => .dct ((k _ ((f _).mpr (.inl rfl))).trans h) (RepOs.freeze le r (fun a p => k a ((f a).mpr (.inr p))) e)
  | _, _, _, .dcT _ _ _ _ _, _, e => by cases e
  | _, _, _, .ins _ _ _ _ _, _, e => by cases e
  | _, _, _, .scr _ _ _, _, e => by cases e
  | _, _, _, .scrK _ _, _, e => by cases e
  | _, _, _, .opq _ _ _, _, e => by cases e
theorem RepOs.freeze {F2 : Hp} (le : Same F F2) : ∀ {v : List (Key × V)} {o : List (Key × OV)} {fp : AS}, RepOs K F H v o fp → (∀ a, fp a → F2 a = H a) → OV.isDs o = true → RepKV K F2 v (OV.toDs o)
  | _, _, _, .nil h, _, _ => .nil
  | _, _, _, .cons h r x f, k, e => by
    have e2 := Bool.and_eq_true_iff.mp e
    exact .cons (RepO.freeze le h (fun a p => k a ((f a).mpr (.inl p))) e2.1) (RepOs.freeze le r (fun a p => k a ((f a).mpr (.inr p))) e2.2)
end
end
end Dt

namespace Dt
open PySem PySem.Spec PyProof.Rows L2

theorem Walk.mono {H H' : Hp} (e : LamX.ExtN H H') : ∀ {ps : List PK} {u v : V}, Walk H u ps v → Walk H' u ps v
  | [], _, _, w => w
  | .key _ :: _, _, _, ⟨a, kvs, w, h1, h2, h3, h4⟩ => ⟨a, kvs, w, h1, e _ _ h2 (fun _ z => nomatch z), h3, Walk.mono e h4⟩
  | .att _ :: _, _, _, ⟨a, C, dx, fs, w, h1, h2, h3, h4⟩ => ⟨a, C, dx, fs, w, h1, e _ _ h2 (fun _ z => nomatch z), h3, Walk.mono e h4⟩

section
variable {K : Fg} {pv : Pins} {F H F1 H1 F2 H2 : Hp} {σ : St} {ρ ρ1 ρ2 : Env} {fps fps1 fps2 : Fps} {v : V} {r : Res} {f f1 f2 : AS}
theorem RepR.noT {ow : AS} (h : RepR K F H σ ow v r f) : ∀ a, f a → NoTb (H a) := fun a p => by
  cases r with
  | cl d => exact (h.2 a p).elim
  | fr o => exact h.1.noT a p
  | sl i q => exact (h.2 a p).elim
theorem RepR.out {ow : AS} (h : RepR K F H σ ow v r f) : ∀ a, f a → F a = none ∧ H a ≠ none ∧ ¬ ow a ∧ ∀ xs, H a ≠ some (.tup xs) := fun a p => by
  cases r with
  | cl d => exact (h.2 a p).elim
  | fr o =>
    obtain ⟨h1, h2, h3⟩ := h.1.out a p
    exact ⟨h1, h2, fun z => h.2 a p z, h3⟩
  | sl i q => exact (h.2 a p).elim
/-- what stands aside stays -/
theorem RepR.later {ow1 ow2 : AS} (h : RepR K F1 H1 σ ow1 v r f1) (s : Step F1 H1 ow1 F2 H2 (orA ow2 f2)) (q : r.deep = true → LamX.ExtN H1 H2) : RepR K F2 H2 σ ow2 v r f1 ∧ Dsj f1 f2 := by
  cases r with
  | cl d => exact ⟨⟨h.1.mono s.le, h.2⟩, fun a p => (h.2 a p).elim⟩
  | fr o =>
    have k : ∀ a, f1 a → H2 a = H1 a ∧ F2 a = none ∧ ¬ orA ow2 f2 a := fun a p => by
      obtain ⟨h1, h2, h3⟩ := h.1.out a p
      obtain ⟨k1, k2, k3⟩ := s.fr a h2 h1 fun z => h.2 a p z
      exact ⟨k1.eq (h.1.noT a p), k2, k3⟩
    exact ⟨⟨h.1.mono s.le fun a p => ⟨(k a p).1, (k a p).2.1⟩, fun a p z => (k a p).2.2 (.inl z)⟩, fun a p z => (k a p).2.2 (.inr z)⟩
  | sl i ps =>
    obtain ⟨⟨u, hu, w⟩, n⟩ := h
    refine ⟨⟨⟨u, hu, ?_⟩, n⟩, fun a p => (n a p).elim⟩
    cases ps with
    | nil => exact w
    | cons p ps => exact w.mono (q rfl)

/-- what a result is -/
theorem RepR.rep (S : Sta K pv F H σ ρ fps) (h : RepR K F H σ (own ρ fps) v r f) {o : OV} (e : r.ov ρ = some o) : ∃ fp, RepO K F H v o fp ∧ ∀ a, fp a → own ρ fps a ∨ f a := by
  cases r with
  | cl d => cases e; exact ⟨noA, .fr h.1 (fun _ z => z), fun _ z => z.elim⟩
  | fr o' => cases e; exact ⟨f, h.1, fun a p => .inr p⟩
  | sl i ps =>
    obtain ⟨⟨u, hu, w⟩, n⟩ := h
    unfold Res.ov at e
    cases hr : ρ[i]? with
    | none => simp only [hr] at e; cases e
    | some x =>
      cases x with
      | none => simp only [hr] at e; cases e
      | some o1 =>
        simp only [hr] at e
        obtain ⟨u', hu', ro⟩ := S.rep i o1 hr
        rw [hu] at hu'
        cases hu'
        obtain ⟨fp, q1, q2⟩ := ro.at_walk w e
        exact ⟨fp, q1, fun a p => .inl ⟨i, o1, hr, q2 a p⟩⟩
theorem RepR.dat (S : Sta K pv F H σ ρ fps) (h : RepR K F H σ (own ρ fps) v r f) {d : PyData} (e : r.dat ρ = some d) : Rep K H v d := by
  unfold Res.dat at e
  cases ho : r.ov ρ with
  | none => simp only [ho] at e; cases e
  | some o =>
    simp only [ho] at e
    split at e
    · rename_i hd
      cases e
      obtain ⟨fp, q, _⟩ := h.rep S ho
      exact q.dat S.le hd
    · cases e
/-- a list or a tuple, its items clean -/
def OV.seq : OV → Option (Bool × List PyData)
  | .fr (.tuple ds) => some (false, ds)
  | .fr (.list ds) => some (true, ds)
  | .lst ds => some (true, ds)
  | .scr ns => some (true, ns.map .int)
  | _ => none
def Res.seq (ρ : Env) (r : Res) : Option (Bool × List PyData) := (r.ov ρ).bind OV.seq
theorem RepO.seqL {o : OV} {ds : List PyData} {fp : AS} (le : Same F H) (h : RepO K F H v o fp) (e : o.seq = some (true, ds)) : ∃ a vs, v = .ref a ∧ SqL K H a vs ∧ Reps K F vs ds := by
  cases o with
  | fr d =>
    cases h with
    | fr h n =>
      cases d with
      | list xs =>
        unfold OV.seq at e
        cases e
        cases h with
        | lst q r => exact ⟨_, _, rfl, .of (le _ _ q), r⟩
      | tuple xs => unfold OV.seq at e; cases e
      | none => unfold OV.seq at e; cases e
      | bool b => unfold OV.seq at e; cases e
      | int b => unfold OV.seq at e; cases e
      | str b => unfold OV.seq at e; cases e
      | dict b => unfold OV.seq at e; cases e
  | lst xs =>
    unfold OV.seq at e
    cases e
    cases h with
    | lst q n r f => exact ⟨_, _, rfl, .of q, r⟩
  | scr ns =>
    unfold OV.seq at e
    cases e
    have rp : ∀ ns : List Int, Reps K F (ns.map V.int) (ns.map PyData.int) := fun ns => by
      induction ns with
      | nil => exact .nil
      | cons n ns ih => exact .cons (.int n) ih
    cases h with
    | scr q n f => exact ⟨_, _, rfl, .inl (.inr ⟨_, q⟩), rp ns⟩
    | scrK q n => exact ⟨_, _, rfl, q H, rp ns⟩
  | dct xs => unfold OV.seq at e; cases e
  | dcT xs => unfold OV.seq at e; cases e
  | ins xs => unfold OV.seq at e; cases e
  | opq xs => unfold OV.seq at e; cases e
theorem RepO.seqP {o : OV} {ds : List PyData} {fp : AS} (le : Same F H) (h : RepO K F H v o fp) (e : o.seq = some (false, ds)) : ∃ a vs, v = .ref a ∧ SqP K F a vs ∧ Reps K F vs ds := by
  cases o with
  | fr d =>
    cases h with
    | fr h n =>
      cases d with
      | list xs => unfold OV.seq at e; cases e
      | tuple xs =>
        unfold OV.seq at e
        cases e
        cases h with
        | tup q r => exact ⟨_, _, rfl, q, r⟩
      | none => unfold OV.seq at e; cases e
      | bool b => unfold OV.seq at e; cases e
      | int b => unfold OV.seq at e; cases e
      | str b => unfold OV.seq at e; cases e
      | dict b => unfold OV.seq at e; cases e
  | lst xs => unfold OV.seq at e; cases e
  | scr xs => unfold OV.seq at e; cases e
  | opq _ => unfold OV.seq at e; cases e
  | dct xs => unfold OV.seq at e; cases e
  | dcT xs => unfold OV.seq at e; cases e
  | ins xs => unfold OV.seq at e; cases e
theorem RepR.seqL (S : Sta K pv F H σ ρ fps) (h : RepR K F H σ (own ρ fps) v r f) {ds : List PyData} (e : r.seq ρ = some (true, ds)) : ∃ a vs, v = .ref a ∧ SqL K H a vs ∧ Reps K F vs ds := by
  unfold Res.seq at e
  cases ho : r.ov ρ with
  | none => rw [ho] at e; cases e
  | some o =>
    rw [ho] at e
    obtain ⟨fp, q, _⟩ := h.rep S ho
    exact q.seqL S.le e
theorem RepO.seqT {o : OV} {ds : List PyData} {fp : AS} (le : Same F H) (h : RepO K F H v o fp) (e : o.seq = some (false, ds)) : ∃ a vs, v = .ref a ∧ SqT K F a vs ∧ Reps K F vs ds :=
  let ⟨a, vs, h1, h2, h3⟩ := RepO.seqP le h e; ⟨a, vs, h1, h2.t, h3⟩
theorem RepR.seqP (S : Sta K pv F H σ ρ fps) (h : RepR K F H σ (own ρ fps) v r f) {ds : List PyData} (e : r.seq ρ = some (false, ds)) : ∃ a vs, v = .ref a ∧ SqP K F a vs ∧ Reps K F vs ds := by
  unfold Res.seq at e
  cases ho : r.ov ρ with
  | none => rw [ho] at e; cases e
  | some o =>
    rw [ho] at e
    obtain ⟨fp, q, _⟩ := h.rep S ho
    exact q.seqP S.le e
theorem RepR.seqT (S : Sta K pv F H σ ρ fps) (h : RepR K F H σ (own ρ fps) v r f) {ds : List PyData} (e : r.seq ρ = some (false, ds)) : ∃ a vs, v = .ref a ∧ SqT K F a vs ∧ Reps K F vs ds :=
  let ⟨a, vs, h1, h2, h3⟩ := h.seqP S e; ⟨a, vs, h1, h2.t, h3⟩
end

/-! ### clean operands -/
def OV.cln : OV → Option PyData
  | .fr d => some d
  | _ => none
/-- as frozen data; what is fresh is frozen for good -/
def Res.cln (ρ : Env) : Res → Option PyData
  | .cl d => some d
  | .fr o => if o.isD = true then some o.toD else none
  | .sl i p => ((Res.sl i p).ov ρ).bind OV.cln
section
variable {K : Fg} {pv : Pins} {F H : Hp} {σ : St} {ρ : Env} {fps : Fps} {v : V} {r : Res} {f : AS}
theorem RepR.cln (S : Sta K pv F H σ ρ fps) (h : RepR K F H σ (own ρ fps) v r f) {d : PyData} (e : r.cln ρ = some d) {F2 : Hp} (le : Same F F2) (k : ∀ a, f a → F2 a = H a) : Rep K F2 v d := by
  cases r with
  | cl d' => cases e; exact h.1.mono le
  | fr o =>
    have e : (if o.isD = true then some o.toD else none) = some d := e
    by_cases hd : o.isD = true
    · rw [if_pos hd] at e
      cases e
      exact h.1.freeze le k hd
    · rw [if_neg hd] at e
      cases e
  | sl i p =>
    have e : ((Res.sl i p).ov ρ).bind OV.cln = some d := e
    cases ho : (Res.sl i p).ov ρ with
    | none => rw [ho] at e; cases e
    | some o =>
      rw [ho] at e
      obtain ⟨fp, q, _⟩ := h.rep S ho
      cases o with
      | fr d' =>
        cases e
        cases q with
        | fr q n => exact q.mono le
      | lst xs => cases e
      | dct xs => cases e
      | dcT xs => cases e
      | ins xs ys => cases e
      | scr xs => cases e
      | opq _ => cases e
end

/-! ### growth: new cells alone -/
structure Grow (F H : Hp) (tf : AS) (F' H' : Hp) (fpr : AS) : Prop where
  hh : Same H H'
  le : Same F F'
  inn : Same F' H'
  new : ∀ a, H a ≠ none → F a = none → ¬ tf a → F' a = none ∧ ¬ fpr a
  nt : (∀ a, NoTb (F a)) → ∀ a, NoTb (F' a)
section
variable {K : Fg} {pv : Pins} {F H F' H' F0 H0 : Hp} {σ : St} {ρ : Env} {fps : Fps} {tf fpr ow0 : AS}
theorem Same.at {H H' : Hp} (e : Same H H') {a : Addr} (h : H a ≠ none) : H' a = H a := by
  cases q : H a with
  | none => exact absurd q h
  | some o => exact e a o q
theorem Grow.sta (G : Grow F H tf F' H' fpr) (S : Sta K pv F H σ ρ fps) (d : Dsj tf (own ρ fps)) : Sta K pv F' H' σ ρ fps :=
  S.grow G.le G.inn (G.nt S.nt) (S.tab.ext G.hh) fun a p => by
    obtain ⟨h1, h2, h3⟩ := S.ow_out p
    exact ⟨Same.at G.hh h2, (G.new a h2 h1 fun z => d a z p).1⟩
theorem Grow.step (G : Grow F H tf F' H' fpr) (s : Step F0 H0 ow0 F H (orA (own ρ fps) tf)) : Step F0 H0 ow0 F' H' (orA (own ρ fps) fpr) :=
  ⟨s.le.trans G.le, fun a h1 h2 h3 => by
    obtain ⟨q1, q2, q3⟩ := s.fr a h1 h2 h3
    have n1 : H a ≠ none := q1.ne h1
    obtain ⟨r1, r2⟩ := G.new a n1 q2 fun z => q3 (.inr z)
    refine ⟨by rw [Same.at G.hh n1]; exact q1, r1, ?_⟩
    rintro (z | z)
    · exact q3 (.inl z)
    · exact r2 z⟩
theorem Grow.refl {F H : Hp} {tf : AS} (le : Same F H) : Grow F H tf F H noA := ⟨Same.refl H, Same.refl F, le, fun a _ h2 _ => ⟨h2, fun z => z⟩, fun n => n⟩
end
theorem same_upd {H : Hp} {p : Addr} {o : HO} (h : H p = none) : Same H (upd H p o) := fun b x e => by
  rw [upd_ne (ne_of_none e h)]
  exact e
theorem noT_upd {H : Hp} {p : Addr} {o : HO} (n : ∀ a, NoTb (H a)) (ho : ∀ ps, o ≠ .tbl ps) : ∀ a, NoTb (upd H p o a) := fun a ps => by
  by_cases h : a = p
  · subst h; rw [upd_same]; exact fun z => ho ps (Option.some.inj z)
  · rw [upd_ne h]; exact n a ps
/-- a new frozen cell; the temporaries tf are frozen along -/
theorem Grow.frozen {F H : Hp} {tf : AS} (le : Same F H) (n : ∀ a, tf a → F a = none) (m : ∀ a, tf a → NoTb (H a)) {p : Addr} {o : HO} (hp : H p = none) (ho : ∀ ps, o ≠ .tbl ps := by intro ps z; cases z) : Grow F H tf (upd (addF F H tf) p o) (upd H p o) noA := by
  refine ⟨same_upd hp, fun a u e => ?_, fun a u e => ?_, fun a h1 h2 h3 => ?_, fun z => noT_upd (addF_noT z m) ho⟩
  · have q := addF_ge (H := H) n a u e
    rw [upd_ne (fun z => by subst z; have := le _ _ e; rw [hp] at this; cases this)]
    exact q
  · by_cases h : a = p
    · subst h; rw [upd_same] at e ⊢; exact e
    · rw [upd_ne h] at e ⊢; exact addF_le le a u e
  · have ne : a ≠ p := fun z => by subst z; exact h1 hp
    rw [upd_ne ne, addF_no h3]
    exact ⟨h2, fun z => z⟩
/-- temporaries are frozen, no new cell -/
theorem Grow.frz {F H : Hp} {tf : AS} (le : Same F H) (n : ∀ a, tf a → F a = none) (m : ∀ a, tf a → NoTb (H a)) : Grow F H tf (addF F H tf) H noA :=
  ⟨Same.refl H, addF_ge n, addF_le le, fun a h1 h2 h3 => by rw [addF_no h3]; exact ⟨h2, fun z => z⟩, fun z => addF_noT z m⟩
/-- a new owned cell; the temporaries tf are frozen along -/
theorem Grow.owned {F H : Hp} {tf : AS} (le : Same F H) (n : ∀ a, tf a → F a = none) (m : ∀ a, tf a → NoTb (H a)) {p : Addr} {o : HO} (hp : H p = none) (hf : ¬ tf p) : Grow F H tf (addF F H tf) (upd H p o) (fun a => a = p) := by
  refine ⟨same_upd hp, addF_ge n, fun a u e => ?_, fun a h1 h2 h3 => ?_, fun z => addF_noT z m⟩
  · by_cases h : a = p
    · subst h
      rw [addF_no hf] at e
      have := le _ _ e
      rw [hp] at this; cases this
    · rw [upd_ne h]; exact addF_le le a u e
  · rw [addF_no h3]
    exact ⟨h2, fun z => by subst z; exact h1 hp⟩

/-! ### two in a row -/
def gSeq2 (ga gb : DE) (ρ : Env) (Q : Bool → Res → Res → Env → Prop) : Prop := ga ρ fun q1 r1 ρ1 => gb ρ1 fun q2 r2 ρ2 => (r1.deep = true → q2 = true) ∧ Q (q1 && q2) r1 r2 ρ2
section
variable {K : Fg} {pv : Pins} {F H : Hp} {σ : St} {ρ : Env} {fps : Fps}
theorem seq2 {ga gb : DE} {Q0 : Bool → Res → Res → Env → Prop} {R : V → V → Hp → Prop} (S : Sta K pv F H σ ρ fps) (ex : Exq K pv F H (own ρ fps)) (h : gSeq2 ga gb ρ Q0)
    (k : ∀ q r1 r2 ρ' x y F' H' fps' f1 f2, Q0 q r1 r2 ρ' → Sta K pv F' H' σ ρ' fps' → Step F H (own ρ fps) F' H' (orA (own ρ' fps') (orA f1 f2)) →
      RepR K F' H' σ (own ρ' fps') x r1 f1 → RepR K F' H' σ (own ρ' fps') y r2 f2 → Dsj f1 f2 → (q = true → LamX.ExtN H H' ∧ ρ' = ρ ∧ fps' = fps) → R x y H') :
    lift K pv ga σ H (fun x H1 => lift K pv gb σ H1 (fun y H2 => R x y H2)) := by
  refine ⟨ρ, F, fps, _, S, ex, h, fun q1 r1 ρ1 v1 H1 F1 fps1 f1 h1 S1 s1 e1 k1 => ?_⟩
  refine ⟨ρ1, F1, fps1, _, S1, ex.later s1, h1, fun q2 r2 ρ2 v2 H2 F2 fps2 f2 h2 S2 s2 e2 k2 => ?_⟩
  obtain ⟨e1', d⟩ := e1.later s2 fun z => (k2 (h2.1 z)).1
  refine k _ r1 r2 ρ2 v1 v2 F2 H2 fps2 f1 f2 h2.2 S2 (s1.aside s2) e1' e2 d fun z => ?_
  obtain ⟨z1, z2⟩ := Bool.and_eq_true_iff.mp z
  obtain ⟨a1, a2, a3⟩ := k1 z1
  obtain ⟨b1, b2, b3⟩ := k2 z2
  exact ⟨a1.trans b1, b2.trans a2, b3.trans a3⟩
end

/-! ### operators by values -/
def ok {α : Type} (o : Option α) (Q : α → Prop) : Prop := ∃ a, o = some a ∧ Q a
/-- a rule r of two values does what f tells -/
def Op2 (K : Fg) (r : R2) (f : Env → Res → Res → Option Res) : Prop :=
  ∀ (pv : Pins) (F H : Hp) (σ : St) (ρ : Env) (fps : Fps) (x y : V) (r1 r2 res : Res) (f1 f2 : AS) (Q : VK), Sta K pv F H σ ρ fps → RepR K F H σ (own ρ fps) x r1 f1 → RepR K F H σ (own ρ fps) y r2 f2 → Dsj f1 f2 →
    f ρ r1 r2 = some res → (∀ v F' H' fpr, Grow F H (orA f1 f2) F' H' fpr → RepR K F' H' σ (own ρ fps) v res fpr → Q v H') → r x y H Q
def gOp (f : Env → Res → Res → Option Res) (ga gb : DE) : DE := fun ρ Q => gSeq2 ga gb ρ fun q r1 r2 ρ2 => ok (f ρ2 r1 r2) fun res => Q q res ρ2
theorem Op2.lift {K : Fg} {r : R2} {f : Env → Res → Res → Option Res} (h : Op2 K r f) {pv : Pins} {ga gb : DE} {σ : St} {H : Hp} {Q : VK} (w : Dt.lift K pv (gOp f ga gb) σ H Q) : tOp r (Dt.lift K pv ga) (Dt.lift K pv gb) σ H Q := by
  obtain ⟨ρ, F, fps, Q0, S, ex, g, k⟩ := w
  refine seq2 S ex g fun q r1 r2 ρ' x y F' H' fps' f1 f2 ⟨res, e, q0⟩ S' s e1 e2 d kq => ?_
  refine h pv F' H' σ ρ' fps' x y r1 r2 res f1 f2 Q S' e1 e2 d e fun v F2 H2 fpr G er => ?_
  have dt : Dsj (orA f1 f2) (own ρ' fps') := fun a z p => (show f1 a ∨ f2 a from z).elim (fun z => (e1.out a z).2.2.1 p) (fun z => (e2.out a z).2.2.1 p)
  exact k q res ρ' v H2 F2 fps' fpr q0 (G.sta S' dt) (G.step s) er fun z => by
    obtain ⟨a1, a2, a3⟩ := kq z
    exact ⟨a1.trans (.of G.hh), a2, a3⟩
end Dt

namespace Dt
open PySem PySem.Spec PyProof.Rows L2

/-! ### names, constants -/
def slotR (ρ : Env) (i : Nat) : Option Res := match ρ[i]? with
  | some (some (.fr d)) => some (.cl d)
  | some (some _) => some (.sl i [])
  | _ => none
def gVar (i : Nat) : DE := fun ρ Q => ok (slotR ρ i) fun r => Q true r ρ
def gC (d : PyData) : DE := fun ρ Q => Q true (.cl d) ρ
section
variable {X : Cx} {pv : Pins} {pos : Pos}
theorem Sta.same {K : Fg} {F H : Hp} {σ : St} {ρ : Env} {fps : Fps} (S : Sta K pv F H σ ρ fps) : Step F H (own ρ fps) F H (orA (own ρ fps) noA) :=
  (Step.refl F H _).less fun c z => z.elim id fun z => z.elim
theorem slotR_rep {K : Fg} {F H : Hp} {σ : St} {ρ : Env} {fps : Fps} {i : Nat} {r : Res} (S : Sta K pv F H σ ρ fps) (e : slotR ρ i = some r) : ∃ v, σ[i]? = some (some v) ∧ RepR K F H σ (own ρ fps) v r noA := by
  unfold slotR at e
  split at e
  · rename_i d hr
    cases e
    obtain ⟨v, h1, h2⟩ := S.rep i _ hr
    cases h2 with
    | fr h n => exact ⟨v, h1, h, fun _ z => z⟩
  · rename_i o hne hr
    cases e
    obtain ⟨v, h1, h2⟩ := S.rep i _ hr
    exact ⟨v, h1, ⟨v, h1, rfl⟩, fun _ z => z⟩
  · cases e
theorem dv_var {i : Nat} {x : Str} (hN : X.N[i]? = some x) (hv : Vis X.env.scope x) (hd : (x == ("__debug__" : Str)) = false := by decide) (hcd : (x == ("__classdict__" : Str)) = false := by decide) : DEv X pv (.Name x pos) (gVar i) :=
  PE.to (pe_var hN hv hd hcd) fun σ H Q ⟨ρ, F, fps, Q0, S, ex, ⟨r, e, q⟩, k⟩ => by
    obtain ⟨v, h1, h2⟩ := slotR_rep S e
    exact ⟨v, h1, k true r ρ v H F fps noA q S S.same h2 fun _ => ⟨LamX.ExtN.refl H, rfl, rfl⟩⟩
theorem dv_of_c {e : Expr} {v : V} {d : PyData} (h : PE X e (tC v)) (r : ∀ F, Rep X.K F v d) : DEv X pv e (gC d) :=
  PE.to h fun σ H Q ⟨ρ, F, fps, Q0, S, ex, q, k⟩ => k true _ ρ v H F fps noA q S S.same ⟨r F, fun _ z => z⟩ fun _ => ⟨LamX.ExtN.refl H, rfl, rfl⟩
theorem dv_int {i : Int} {j} : DEv X pv (.Constant (.int i) j pos) (gC (.int i)) := dv_of_c pe_int fun _ => .int i
theorem dv_bool {b : Bool} {j} : DEv X pv (.Constant (.bool b) j pos) (gC (.bool b)) := dv_of_c pe_bl fun _ => .bool b
theorem dv_none {j} : DEv X pv (.Constant .none j pos) (gC .none) := dv_of_c pe_non fun _ => .none
theorem dv_str {x : Str} {j} : DEv X pv (.Constant (.str x) j pos) (gC (.str x)) := dv_of_c pe_str fun _ => .str x
end

/-! ### argument lists -/
def RepRs (K : Fg) (F H : Hp) (σ : St) (ow : AS) : List V → List Res → AS → Prop
  | [], [], f => ∀ a, ¬ f a
  | v :: vs, r :: rs, f => ∃ f1 f2, RepR K F H σ ow v r f1 ∧ RepRs K F H σ ow vs rs f2 ∧ Dsj f1 f2 ∧ ∀ a, f a ↔ f1 a ∨ f2 a
  | _, _, _ => False
abbrev DA := Env → (Bool → List Res → Env → Prop) → Prop
def liftA (K : Fg) (pv : Pins) (g : DA) : TA := fun σ H Q => ∃ (ρ : Env) (F : Hp) (fps : Fps) (Q0 : Bool → List Res → Env → Prop), Sta K pv F H σ ρ fps ∧ Exq K pv F H (own ρ fps) ∧ g ρ Q0 ∧
  ∀ q rs ρ' vs H' F' fps' f, Q0 q rs ρ' → Sta K pv F' H' σ ρ' fps' → Step F H (own ρ fps) F' H' (orA (own ρ' fps') f) → RepRs K F' H' σ (own ρ' fps') vs rs f →
    (q = true → LamX.ExtN H H' ∧ ρ' = ρ ∧ fps' = fps) → Q vs H'
def DAv (X : Cx) (pv : Pins) (es : List Expr) (g : DA) : Prop := PA X es (liftA X.K pv g)
section
variable {K : Fg} {pv : Pins} {F H F1 H1 F2 H2 : Hp} {σ : St} {ow ow1 ow2 : AS} {f2 : AS}
theorem RepRs.out : ∀ {vs : List V} {rs : List Res} {f : AS}, RepRs K F H σ ow vs rs f → ∀ a, f a → F a = none ∧ H a ≠ none ∧ ¬ ow a
  | [], [], _, h, a, p => (h a p).elim
  | v :: vs, r :: rs, f, ⟨f1, f2, h1, h2, _, e⟩, a, p => by
    rcases (e a).mp p with p | p
    · obtain ⟨q1, q2, q3, _⟩ := h1.out a p
      exact ⟨q1, q2, q3⟩
    · exact RepRs.out h2 a p
  | [], _ :: _, _, h, _, _ => h.elim
  | _ :: _, [], _, h, _, _ => h.elim
theorem RepRs.noT : ∀ {vs : List V} {rs : List Res} {f : AS}, RepRs K F H σ ow vs rs f → ∀ a, f a → NoTb (H a)
  | [], [], _, h, a, p => (h a p).elim
  | v :: vs, r :: rs, f, ⟨f1, f2, h1, h2, _, e⟩, a, p => by
    rcases (e a).mp p with p | p
    · exact h1.noT a p
    · exact RepRs.noT h2 a p
  | [], _ :: _, _, h, _, _ => h.elim
  | _ :: _, [], _, h, _, _ => h.elim
theorem RepRs.length : ∀ {vs : List V} {rs : List Res} {f : AS}, RepRs K F H σ ow vs rs f → vs.length = rs.length
  | [], [], _, _ => rfl
  | v :: vs, r :: rs, f, ⟨f1, f2, h1, h2, _, e⟩ => by rw [List.length_cons, List.length_cons, RepRs.length h2]
  | [], _ :: _, _, h => h.elim
  | _ :: _, [], _, h => h.elim
end
def gNil : DA := fun ρ Q => Q true [] ρ
def gCons (g : DE) (ga : DA) : DA := fun ρ Q => g ρ fun q1 r ρ1 => ga ρ1 fun q2 rs ρ2 => (r.deep = true → q2 = true) ∧ Q (q1 && q2) (r :: rs) ρ2
section
variable {X : Cx} {pv : Pins} {pos : Pos}
theorem da_nil : DAv X pv [] gNil :=
  PA.to pa_nil fun σ H Q ⟨ρ, F, fps, Q0, S, ex, q, k⟩ => k true [] ρ [] H F fps noA q S S.same (fun _ z => z) fun _ => ⟨LamX.ExtN.refl H, rfl, rfl⟩
theorem cons_lift {K : Fg} {g : DE} {ga : DA} {σ : St} {H : Hp} {R : V → List V → Hp → Prop} {Q0 : Bool → List Res → Env → Prop} {ρ : Env} {F : Hp} {fps : Fps} (S : Sta K pv F H σ ρ fps) (ex : Exq K pv F H (own ρ fps)) (h : gCons g ga ρ Q0)
    (k : ∀ q r rs ρ' v vs H' F' fps' f, Q0 q (r :: rs) ρ' → Sta K pv F' H' σ ρ' fps' → Step F H (own ρ fps) F' H' (orA (own ρ' fps') f) → RepRs K F' H' σ (own ρ' fps') (v :: vs) (r :: rs) f →
      (q = true → LamX.ExtN H H' ∧ ρ' = ρ ∧ fps' = fps) → R v vs H') : lift K pv g σ H fun x H1 => liftA K pv ga σ H1 fun xs H2 => R x xs H2 := by
  refine ⟨ρ, F, fps, _, S, ex, h, fun q1 r1 ρ1 v1 H1 F1 fps1 f1 h1 S1 s1 e1 k1 => ?_⟩
  refine ⟨ρ1, F1, fps1, _, S1, ex.later s1, h1, fun q2 rs ρ2 vs H2 F2 fps2 f2 h2 S2 s2 e2 k2 => ?_⟩
  obtain ⟨e1', d⟩ := e1.later s2 fun z => (k2 (h2.1 z)).1
  refine k _ r1 rs ρ2 v1 vs H2 F2 fps2 (orA f1 f2) h2.2 S2 (s1.aside s2) ⟨f1, f2, e1', e2, d, fun a => Iff.rfl⟩ fun z => ?_
  obtain ⟨z1, z2⟩ := Bool.and_eq_true_iff.mp z
  obtain ⟨a1, a2, a3⟩ := k1 z1
  obtain ⟨b1, b2, b3⟩ := k2 z2
  exact ⟨a1.trans b1, b2.trans a2, b3.trans a3⟩
theorem da_cons {e : Expr} {es : List Expr} {g : DE} {ga : DA} (h1 : DEv X pv e g) (h2 : DAv X pv es ga) (hs : starEach (e :: es) X.env = (false, eval e X.env) :: starEach es X.env := by rfl) : DAv X pv (e :: es) (gCons g ga) :=
  PA.to (pa_cons h1 h2 hs) fun σ H Q ⟨ρ, F, fps, Q0, S, ex, q, k⟩ => cons_lift S ex q fun q r rs ρ' v vs H' F' fps' f => k q (r :: rs) ρ' (v :: vs) H' F' fps' f
end

/-! ### operands as clean data -/
def clns (ρ : Env) : List Res → Option (List PyData)
  | [] => some []
  | r :: rs => (r.cln ρ).bind fun d => (clns ρ rs).bind fun ds => some (d :: ds)
section
variable {K : Fg} {pv : Pins} {F H : Hp} {σ : St} {ρ : Env} {fps : Fps}
theorem RepRs.clns (S : Sta K pv F H σ ρ fps) {F2 : Hp} (le : Same F F2) : ∀ {vs : List V} {rs : List Res} {f : AS} {ds : List PyData}, RepRs K F H σ (own ρ fps) vs rs f → Dt.clns ρ rs = some ds → (∀ a, f a → F2 a = H a) → Reps K F2 vs ds
  | [], [], _, ds, _, e, _ => by
    have e : some [] = some ds := e
    cases e
    exact .nil
  | v :: vs, r :: rs, f, ds, ⟨f1, f2, h1, h2, _, ef⟩, e, k => by
    have e : ((r.cln ρ).bind fun d => (Dt.clns ρ rs).bind fun ds => some (d :: ds)) = some ds := e
    cases h3 : r.cln ρ with
    | none => rw [h3] at e; cases e
    | some d =>
      rw [h3] at e
      cases h4 : Dt.clns ρ rs with
      | none => rw [h4] at e; cases e
      | some ds' =>
        rw [h4] at e
        cases e
        exact .cons (h1.cln S h3 le fun a p => k a ((ef a).mpr (.inl p))) (RepRs.clns S le h2 h4 fun a p => k a ((ef a).mpr (.inr p)))
  | [], _ :: _, _, _, h, _, _ => h.elim
  | _ :: _, [], _, _, h, _, _ => h.elim
end
theorem Reps.length {K : Fg} {F : Hp} : ∀ {vs : List V} {ds : List PyData}, Reps K F vs ds → vs.length = ds.length
  | _, _, .nil => rfl
  | _, _, .cons _ r => by rw [List.length_cons, List.length_cons, Reps.length r]

/-! ### a call's values: what f tells -/
def OpN (K : Fg) (r : List V → Hp → VK → Prop) (f : Env → List Res → Option Res) : Prop :=
  ∀ (pv : Pins) (F H : Hp) (σ : St) (ρ : Env) (fps : Fps) (xs : List V) (rs : List Res) (res : Res) (tf : AS) (Q : VK), Sta K pv F H σ ρ fps → RepRs K F H σ (own ρ fps) xs rs tf →
    f ρ rs = some res → (∀ v F' H' fpr, Grow F H tf F' H' fpr → RepR K F' H' σ (own ρ fps) v res fpr → Q v H') → r xs H Q
def gN (f : Env → List Res → Option Res) (ga : DA) : DE := fun ρ Q => ga ρ fun q rs ρ2 => ok (f ρ2 rs) fun res => Q q res ρ2
theorem OpN.lift {K : Fg} {r : List V → Hp → VK → Prop} {f : Env → List Res → Option Res} (h : OpN K r f) {pv : Pins} {ga : DA} {σ : St} {H : Hp} {Q : VK} (w : Dt.lift K pv (gN f ga) σ H Q) : liftA K pv ga σ H fun vs H1 => r vs H1 Q := by
  obtain ⟨ρ, F, fps, Q0, S, ex, g, k⟩ := w
  refine ⟨ρ, F, fps, _, S, ex, g, fun q rs ρ' vs H' F' fps' tf ⟨res, e, q0⟩ S' s er kq => ?_⟩
  refine h pv F' H' σ ρ' fps' vs rs res tf Q S' er e fun v F2 H2 fpr G e2 => ?_
  have dt : Dsj tf (own ρ' fps') := fun a z p => (er.out a z).2.2 p
  exact k q res ρ' v H2 F2 fps' fpr q0 (G.sta S' dt) (G.step s) e2 fun z => by
    obtain ⟨a1, a2, a3⟩ := kq z
    exact ⟨a1.trans (.of G.hh), a2, a3⟩

/-! ### displays -/
def mkTup (ρ : Env) (rs : List Res) : Option Res := (clns ρ rs).bind fun ds => if ds.length ≤ sizeLine then some (.cl (.tuple ds)) else none
def mkLst (ρ : Env) (rs : List Res) : Option Res := (clns ρ rs).bind fun ds => if ds.length ≤ sizeLine then some (.fr (.lst ds)) else none
/-- (x, ..): a new tuple -/
theorem pe_tupP {X : Cx} {pos : Pos} {es : List Expr} {t : TA} {x1} (h : PA X es t) : PE X (.Tuple es x1 pos) (fun σ H Q => t σ H fun xs H1 => xs.length ≤ sizeLine ∧ ∀ (p : Addr) (o : Obj), o.dict = none → H1 p = none → Q (.ref p) (upd H1 p (.frz o (.tup xs)))) := by
  refine ⟨fun pins s σ H Q I hq => ?_⟩
  refine wpAny_Tuple_spliced (thn (h.run pos pins s σ H _ I hq) fun us s1 ⟨xs, H1, I1, r, z, q⟩ => ⟨by rw [← r.length]; exact z, ?_⟩)
  have hf : H1 s1.heap.objs.size = none := I1.hok.fresh (Nat.le_refl _)
  refine ⟨.ref s1.heap.objs.size, upd H1 s1.heap.objs.size (.frz { cls := .type "tuple", data := .seq us.toArray } (.tup xs)), I1.laid (t' := s1.toks) (fun b u e => Heap.get?_push_of_some _ e) (Nat.le_refl _) ?_, rfl, q _ _ rfl hf⟩
  exact ⟨Heap.get?_push_size _ rfl, z, us, r, ⟨_, Heap.get?_push_size _ rfl, rfl, _, rfl⟩⟩
theorem mkTup_ok (K : Fg) : OpN K (fun xs H Q => xs.length ≤ sizeLine ∧ ∀ (p : Addr) (o : Obj), o.dict = none → H p = none → Q (.ref p) (upd H p (.frz o (.tup xs)))) mkTup := by
  intro pv F H σ ρ fps xs rs res tf Q S R e k
  unfold mkTup at e
  cases hc : clns ρ rs with
  | none => rw [hc] at e; cases e
  | some ds =>
    rw [hc] at e
    have e : (if ds.length ≤ sizeLine then some (Res.cl (.tuple ds)) else none) = some res := e
    by_cases hz : ds.length ≤ sizeLine
    · rw [if_pos hz] at e
      cases e
      have hl : xs.length = ds.length := (R.clns S (F2 := addF F H tf) (addF_ge fun a p => (R.out a p).1) hc fun a p => addF_in p).length
      refine ⟨by rw [hl]; exact hz, fun p o hd hp => ?_⟩
      have G := Grow.frozen (tf := tf) (o := .frz o (.tup xs)) S.le (fun a p => (R.out a p).1) R.noT hp
      refine k _ _ _ _ G ⟨.tup (.inl ⟨o, upd_same, hd⟩) (R.clns S G.le hc fun a p => ?_), fun _ z => z⟩
      rw [upd_ne (fun z => by subst z; exact (R.out _ p).2.1 hp), addF_in p]
    · rw [if_neg hz] at e
      cases e
theorem mkLst_ok (K : Fg) : OpN K (fun xs H Q => xs.length ≤ sizeLine ∧ ∀ p, H p = none → Q (.ref p) (upd H p (.lst xs))) mkLst := by
  intro pv F H σ ρ fps xs rs res tf Q S R e k
  unfold mkLst at e
  cases hc : clns ρ rs with
  | none => rw [hc] at e; cases e
  | some ds =>
    rw [hc] at e
    have e : (if ds.length ≤ sizeLine then some (Res.fr (.lst ds)) else none) = some res := e
    by_cases hz : ds.length ≤ sizeLine
    · rw [if_pos hz] at e
      cases e
      have RR := R.clns S (F2 := addF F H tf) (addF_ge fun a p => (R.out a p).1) hc fun a p => addF_in p
      refine ⟨by rw [RR.length]; exact hz, fun p hp => ?_⟩
      have nt : ¬ tf p := fun z => (R.out p z).2.1 hp
      have G := Grow.owned (tf := tf) (o := .lst xs) S.le (fun a p => (R.out a p).1) R.noT hp nt
      have nF : F p = none := by
        cases q : F p with
        | none => rfl
        | some o => have := S.le _ _ q; rw [hp] at this; cases this
      refine k _ _ _ _ G ⟨.lst upd_same (by rw [addF_no nt]; exact nF) RR fun b => Iff.rfl, fun a e p2 => ?_⟩
      have e : a = p := e
      subst e
      exact (S.ow_out p2).2.1 hp
    · rw [if_neg hz] at e
      cases e
section
variable {X : Cx} {pv : Pins} {pos : Pos} {es : List Expr} {ga : DA}
theorem dv_tup {x1} (h : DAv X pv es ga) : DEv X pv (.Tuple es x1 pos) (gN mkTup ga) := PE.to (pe_tupP h) fun _ _ _ w => (mkTup_ok X.K).lift w
theorem dv_lst (h : DAv X pv es ga) : DEv X pv (.List es pos) (gN mkLst ga) := PE.to (pe_lst h) fun _ _ _ w => (mkLst_ok X.K).lift w
/-! ### operators, built-in calls: from a rule and what it does -/
theorem dv_op {op : Operator} {r : R2} {f : Env → Res → Res → Option Res} {a b : Expr} {g1 g2 : DE} (ho : OpR X (binaryOp op) r) (hf : Op2 X.K r f) (ha : DEv X pv a g1) (hb : DEv X pv b g2) : DEv X pv (.BinOp a op b pos) (gOp f g1 g2) :=
  PE.to (pe_op ho ha hb) fun _ _ _ w => hf.lift w
theorem dv_cmp {op : CmpOp} {r : R2} {f : Env → Res → Res → Option Res} {a b : Expr} {g1 g2 : DE} (ho : OpR X (compareOp op) r) (hf : Op2 X.K r f) (ha : DEv X pv a g1) (hb : DEv X pv b g2) (hm : behindInMarks op b = false := by rfl) : DEv X pv (.Compare a [op] [b] pos) (gOp f g1 g2) :=
  PE.to (pe_cmpR ho ha hb hm) fun _ _ _ w => hf.lift w
theorem dv_call {id : String} {r : List V → Hp → VK → Prop} {f : Env → List Res → Option Res} {x : Str} {p : Pos} {e : Expr} (hc : CallR X (.builtin id) r) (hf : OpN X.K r f) (hg : Gl X x) (hm : X.mg x = none) (hv : bootBuiltins x = some (.builtin id)) (ha : DAv X pv (e :: es) ga)
    (hn : x ≠ "__name__" := by decide) (hdb : (x == ("__debug__" : Str)) = false := by decide)
    (he : starEach (e :: es) X.env = (false, eval e X.env) :: starEach es X.env := by rfl) (hpl : (backTo pos (starEach es X.env)).any (·.1) = false := by rfl) : DEv X pv (.Call (.Name x p) (e :: es) [] pos) (gN f ga) :=
  PE.to (pe_callB hc hg hm hv ha hn hdb he hpl) fun _ _ _ w => hf.lift w
theorem dv_callT {T : String} {r : List V → Hp → VK → Prop} {f : Env → List Res → Option Res} {x : Str} {p : Pos} {e : Expr} (hc : CallR X (.type T) r) (hf : OpN X.K r f) (hg : Gl X x) (hm : X.mg x = none) (hv : bootBuiltins x = some (.type T)) (ha : DAv X pv (e :: es) ga)
    (hn : x ≠ "__name__" := by decide) (hdb : (x == ("__debug__" : Str)) = false := by decide)
    (he : starEach (e :: es) X.env = (false, eval e X.env) :: starEach es X.env := by rfl) (hpl : (backTo pos (starEach es X.env)).any (·.1) = false := by rfl) : DEv X pv (.Call (.Name x p) (e :: es) [] pos) (gN f ga) :=
  PE.to (pe_callTy hc hg hm hv ha hn hdb he hpl) fun _ _ _ w => hf.lift w
end
end Dt

namespace Dt
open PySem PySem.Spec PyProof.Rows L2

/-! ### tests -/
abbrev DT := Env → (Bool → Bool → Env → Prop) → Prop
def liftT (K : Fg) (pv : Pins) (g : DT) : TT := fun σ H Q => ∃ (ρ : Env) (F : Hp) (fps : Fps) (Q0 : Bool → Bool → Env → Prop), Sta K pv F H σ ρ fps ∧ Exq K pv F H (own ρ fps) ∧ g ρ Q0 ∧
  ∀ q b ρ' H' F' fps', Q0 q b ρ' → Sta K pv F' H' σ ρ' fps' → Step F H (own ρ fps) F' H' (own ρ' fps') → (q = true → LamX.ExtN H H' ∧ ρ' = ρ ∧ fps' = fps) → Q b H'
def DTv (X : Cx) (pv : Pins) (e : Expr) (g : DT) : Prop := PT X e (liftT X.K pv g)
def DWv (X : Cx) (pv : Pins) (e : Expr) (g : DT) : Prop := PW X e (liftT X.K pv g)
theorem PW.to {X : Cx} {e : Expr} {t t' : TT} (h : PW X e t) (i : ∀ σ H Q, t' σ H Q → t σ H Q) : PW X e t' := ⟨fun wh pins s σ H Q I q => h.run wh pins s σ H Q I (i σ H Q q)⟩
theorem DWv.t {X : Cx} {pv : Pins} {e : Expr} {g : DT} (h : DWv X pv e g) : DTv X pv e g := PW.pt h
def asB : Res → Option Bool
  | .cl (.bool b) => some b
  | _ => none
def gTst (g : DE) : DT := fun ρ Q => g ρ fun q r ρ' => ok (asB r) fun b => Q q b ρ'
section
variable {K : Fg} {pv : Pins} {F H : Hp} {σ : St} {ρ : Env} {fps : Fps}
theorem asB_rep {ow : AS} {v : V} {r : Res} {f : AS} {b : Bool} (h : RepR K F H σ ow v r f) (e : asB r = some b) : v = .bl b ∧ ∀ a, ¬ f a := by
  cases r with
  | cl d =>
    cases d with
    | bool c =>
      have e : some c = some b := e
      cases e
      obtain ⟨h1, h2⟩ := h
      cases h1
      exact ⟨rfl, h2⟩
    | none => cases e
    | int _ => cases e
    | str _ => cases e
    | list _ => cases e
    | tuple _ => cases e
    | dict _ => cases e
  | fr o => cases e
  | sl i p => cases e
theorem tst_lift {g : DE} {Q : Bool → Hp → Prop} (w : liftT K pv (gTst g) σ H Q) : lift K pv g σ H fun x H' => ∃ k, x = .bl k ∧ Q k H' := by
  obtain ⟨ρ, F, fps, Q0, S, ex, h, k⟩ := w
  refine ⟨ρ, F, fps, _, S, ex, h, fun q r ρ' v H' F' fps' f ⟨b, e, q0⟩ S' s er kq => ?_⟩
  obtain ⟨e1, e2⟩ := asB_rep er e
  exact ⟨b, e1, k q b ρ' H' F' fps' q0 S' (s.less fun c z => .inl z) kq⟩
end
section
variable {X : Cx} {pv : Pins} {pos : Pos} {a b : Expr} {ga gb : DT}
theorem dt_val {e : Expr} {g : DE} (h : DEv X pv e g) (he : ∀ whole, isTrue e X.env whole = (do let v ← whole; standAt e.pos; holding [v] (truthy v)) := by intro _; rfl) : DTv X pv e (gTst g) :=
  PT.to (pt_val h he) fun _ _ _ w => tst_lift w
theorem dt_cmp {op : CmpOp} {r : R2} {f : Env → Res → Res → Option Res} {g1 g2 : DE} (ho : OpR X (compareOp op) r) (hf : Op2 X.K r f) (ha : DEv X pv a g1) (hb : DEv X pv b g2) (hm : behindInMarks op b = false := by rfl) : DTv X pv (.Compare a [op] [b] pos) (gTst (gOp f g1 g2)) :=
  PT.to (pt_cmpR ho ha hb hm) fun _ _ _ w => hf.lift (tst_lift w)
def gAnd (ga gb : DT) : DT := fun ρ Q => ga ρ fun q1 b1 ρ1 => if b1 = true then gb ρ1 fun q2 b2 ρ2 => Q (q1 && q2) b2 ρ2 else Q q1 false ρ1
def gOr (ga gb : DT) : DT := fun ρ Q => ga ρ fun q1 b1 ρ1 => if b1 = true then Q q1 true ρ1 else gb ρ1 fun q2 b2 ρ2 => Q (q1 && q2) b2 ρ2
def gNot (ga : DT) : DT := fun ρ Q => ga ρ fun q b ρ' => Q q (!b) ρ'
theorem quiet_trans {H H1 H2 : Hp} {ρ ρ1 ρ2 : Env} {fps fps1 fps2 : Fps} {q1 q2 : Bool} (k1 : q1 = true → LamX.ExtN H H1 ∧ ρ1 = ρ ∧ fps1 = fps) (k2 : q2 = true → LamX.ExtN H1 H2 ∧ ρ2 = ρ1 ∧ fps2 = fps1) (z : (q1 && q2) = true) : LamX.ExtN H H2 ∧ ρ2 = ρ ∧ fps2 = fps := by
  obtain ⟨z1, z2⟩ := Bool.and_eq_true_iff.mp z
  obtain ⟨a1, a2, a3⟩ := k1 z1
  obtain ⟨b1, b2, b3⟩ := k2 z2
  exact ⟨a1.trans b1, b2.trans a2, b3.trans a3⟩
theorem and_lift {K : Fg} {σ : St} {H : Hp} {Q : Bool → Hp → Prop} (w : liftT K pv (gAnd ga gb) σ H Q) : tAnd (liftT K pv ga) (liftT K pv gb) σ H Q := by
  obtain ⟨ρ, F, fps, Q0, S, ex, h, k⟩ := w
  refine ⟨ρ, F, fps, _, S, ex, h, fun q1 b1 ρ1 H1 F1 fps1 h1 S1 s1 k1 => ?_⟩
  cases b1 with
  | false => exact k q1 false ρ1 H1 F1 fps1 h1 S1 s1 k1
  | true => exact ⟨ρ1, F1, fps1, _, S1, ex.latr s1, h1, fun q2 b2 ρ2 H2 F2 fps2 h2 S2 s2 k2 => k _ b2 ρ2 H2 F2 fps2 h2 S2 (s1.trans s2) (quiet_trans k1 k2)⟩
theorem or_lift {K : Fg} {σ : St} {H : Hp} {Q : Bool → Hp → Prop} (w : liftT K pv (gOr ga gb) σ H Q) : tOr (liftT K pv ga) (liftT K pv gb) σ H Q := by
  obtain ⟨ρ, F, fps, Q0, S, ex, h, k⟩ := w
  refine ⟨ρ, F, fps, _, S, ex, h, fun q1 b1 ρ1 H1 F1 fps1 h1 S1 s1 k1 => ?_⟩
  cases b1 with
  | true => exact k q1 true ρ1 H1 F1 fps1 h1 S1 s1 k1
  | false => exact ⟨ρ1, F1, fps1, _, S1, ex.latr s1, h1, fun q2 b2 ρ2 H2 F2 fps2 h2 S2 s2 k2 => k _ b2 ρ2 H2 F2 fps2 h2 S2 (s1.trans s2) (quiet_trans k1 k2)⟩
theorem dw_and1 (h : DTv X pv a ga) : DWv X pv (.BoolOp .And [a] pos) ga := pw_and1 h
theorem dw_or1 (h : DTv X pv a ga) : DWv X pv (.BoolOp .Or [a] pos) ga := pw_or1 h
theorem dw_and {rest : List Expr} (h1 : DTv X pv a ga) (h2 : DWv X pv (.BoolOp .And (b :: rest) pos) gb) : DWv X pv (.BoolOp .And (a :: b :: rest) pos) (gAnd ga gb) := PW.to (pw_and h1 h2) fun _ _ _ w => and_lift w
theorem dw_or {rest : List Expr} (h1 : DTv X pv a ga) (h2 : DWv X pv (.BoolOp .Or (b :: rest) pos) gb) : DWv X pv (.BoolOp .Or (a :: b :: rest) pos) (gOr ga gb) := PW.to (pw_or h1 h2) fun _ _ _ w => or_lift w
theorem dt_not (h : DTv X pv a ga) : DTv X pv (.UnaryOp .Not a pos) (gNot ga) :=
  PT.to (pt_not h) fun σ H Q ⟨ρ, F, fps, Q0, S, ex, h, k⟩ => ⟨ρ, F, fps, _, S, ex, h, fun q b ρ' H' F' fps' q0 S' s kq => k q (!b) ρ' H' F' fps' q0 S' s kq⟩
end
/-! ### and, or, not as values -/
section
variable {X : Cx} {pv : Pins} {pos : Pos} {a b c : Expr} {ga gb : DE} {gt : DT}
def gAndV (ga gb : DE) : DE := fun ρ Q => ga ρ fun q1 r1 ρ1 => ok (asB r1) fun b1 => if b1 = true then gb ρ1 fun q2 r2 ρ2 => Q (q1 && q2) r2 ρ2 else Q q1 (.cl (.bool false)) ρ1
def gOrV (ga gb : DE) : DE := fun ρ Q => ga ρ fun q1 r1 ρ1 => ok (asB r1) fun b1 => if b1 = true then Q q1 (.cl (.bool true)) ρ1 else gb ρ1 fun q2 r2 ρ2 => Q (q1 && q2) r2 ρ2
def gNotV (ga : DE) : DE := fun ρ Q => ga ρ fun q r ρ' => ok (asB r) fun b => Q q (.cl (.bool (!b))) ρ'
theorem Step.no {F H F1 H1 : Hp} {ow ow1 f : AS} (s : Step F H ow F1 H1 (orA ow1 f)) : Step F H ow F1 H1 ow1 := s.less fun c z => .inl z
theorem Step.nof {F H F1 H1 : Hp} {ow ow1 f : AS} (s : Step F H ow F1 H1 (orA ow1 f)) : Step F H ow F1 H1 (orA ow1 noA) := s.less fun c z => z.elim .inl fun z => z.elim
theorem dv_and {rest : List Expr} (h1 : DEv X pv a ga) (h2 : DEv X pv (.BoolOp .And (b :: rest) pos) gb) : DEv X pv (.BoolOp .And (a :: b :: rest) pos) (gAndV ga gb) :=
  PE.to (pe_and h1 h2) fun σ H Q ⟨ρ, F, fps, Q0, S, ex, h, k⟩ => by
    refine ⟨ρ, F, fps, _, S, ex, h, fun q1 r1 ρ1 v1 H1 F1 fps1 f1 ⟨b1, e, h1⟩ S1 s1 er k1 => ⟨b1, (asB_rep er e).1, ?_⟩⟩
    cases b1 with
    | false => exact k q1 _ ρ1 _ H1 F1 fps1 noA h1 S1 s1.nof ⟨.bool false, fun _ z => z⟩ k1
    | true => exact ⟨ρ1, F1, fps1, _, S1, ex.later s1, h1, fun q2 r2 ρ2 v2 H2 F2 fps2 f2 h2 S2 s2 e2 k2 => k _ r2 ρ2 v2 H2 F2 fps2 f2 h2 S2 (s1.no.trans s2) e2 (quiet_trans k1 k2)⟩
theorem dv_one {op} (h : DEv X pv a ga) : DEv X pv (.BoolOp op [a] pos) ga := pe_one h
theorem dv_not (h : DEv X pv a ga) : DEv X pv (.UnaryOp .Not a pos) (gNotV ga) :=
  PE.to (pe_not h) fun σ H Q ⟨ρ, F, fps, Q0, S, ex, h, k⟩ =>
    ⟨ρ, F, fps, _, S, ex, h, fun q1 r1 ρ1 v1 H1 F1 fps1 f1 ⟨b1, e, h1⟩ S1 s1 er k1 => ⟨b1, (asB_rep er e).1, k q1 _ ρ1 _ H1 F1 fps1 noA h1 S1 s1.nof ⟨.bool _, fun _ z => z⟩ k1⟩⟩
def gIfE (gt : DT) (ga gb : DE) : DE := fun ρ Q => gt ρ fun q b ρ1 => if b = true then ga ρ1 fun q2 r ρ2 => Q (q && q2) r ρ2 else gb ρ1 fun q2 r ρ2 => Q (q && q2) r ρ2
theorem dv_if (ht : DTv X pv c gt) (h1 : DEv X pv a ga) (h2 : DEv X pv b gb) : DEv X pv (.IfExp c a b pos) (gIfE gt ga gb) :=
  PE.to (pe_ifExp ht h1 h2) fun σ H Q ⟨ρ, F, fps, Q0, S, ex, h, k⟩ => by
    refine ⟨ρ, F, fps, _, S, ex, h, fun q1 b1 ρ1 H1 F1 fps1 h1 S1 s1 k1 => ?_⟩
    cases b1 with
    | true => exact ⟨ρ1, F1, fps1, _, S1, ex.latr s1, h1, fun q2 r2 ρ2 v2 H2 F2 fps2 f2 h2 S2 s2 e2 k2 => k _ r2 ρ2 v2 H2 F2 fps2 f2 h2 S2 (s1.trans s2) e2 (quiet_trans k1 k2)⟩
    | false => exact ⟨ρ1, F1, fps1, _, S1, ex.latr s1, h1, fun q2 r2 ρ2 v2 H2 F2 fps2 f2 h2 S2 s2 e2 k2 => k _ r2 ρ2 v2 H2 F2 fps2 f2 h2 S2 (s1.trans s2) e2 (quiet_trans k1 k2)⟩
/-- what is fresh is frozen -/
def frzR : Res → Option Res
  | .cl d => some (.cl d)
  | .fr o => if o.isD = true then some (.cl o.toD) else none
  | .sl i p => some (.sl i p)
def gFz (g : DE) : DE := fun ρ Q => g ρ fun q r ρ' => ok (frzR r) fun r' => Q q r' ρ'
theorem dv_fz {e : Expr} {g : DE} (h : DEv X pv e g) : DEv X pv e (gFz g) :=
  PE.to h fun σ H Q ⟨ρ, F, fps, Q0, S, ex, h, k⟩ => by
    refine ⟨ρ, F, fps, _, S, ex, h, fun q r ρ' v H' F' fps' f ⟨r', e, q0⟩ S' s er kq => ?_⟩
    cases r with
    | cl d => cases e; exact k q _ ρ' v H' F' fps' f q0 S' s er kq
    | sl i p => cases e; exact k q _ ρ' v H' F' fps' f q0 S' s er kq
    | fr o =>
      have e : (if o.isD = true then some (Res.cl o.toD) else none) = some r' := e
      by_cases hd : o.isD = true
      · rw [if_pos hd] at e
        cases e
        have G := Grow.frz (tf := f) S'.le (fun a p => (er.out a p).1) er.noT
        have dt : Dsj f (own ρ' fps') := fun a z p => (er.out a z).2.2.1 p
        exact k q _ ρ' v H' _ fps' noA q0 (G.sta S' dt) (G.step s) ⟨er.1.freeze G.le (fun a p => addF_in p) hd, fun _ z => z⟩ kq
      · rw [if_neg hd] at e
        cases e
end
end Dt

namespace Dt
open PySem PySem.Spec PyProof.Rows L2

/-! ### statements -/
structure DEnds where
  nx : Env → Prop
  rt : Res → Env → Prop
  ct : Env → Prop := fun _ => False
abbrev DS := DEnds → Env → Prop
structure EndsOk (K : Fg) (pv : Pins) (F H : Hp) (ow : AS) (D0 : DEnds) (D : Ends) : Prop where
  nx : ∀ ρ' σ' H' F' fps', D0.nx ρ' → Sta K pv F' H' σ' ρ' fps' → Step F H ow F' H' (own ρ' fps') → D.nx σ' H'
  rt : ∀ r ρ' σ' v H' F' fps' f, D0.rt r ρ' → Sta K pv F' H' σ' ρ' fps' → Step F H ow F' H' (orA (own ρ' fps') f) → RepR K F' H' σ' (own ρ' fps') v r f → D.rt v H'
  ct : ∀ ρ' σ' H' F' fps', D0.ct ρ' → Sta K pv F' H' σ' ρ' fps' → Step F H ow F' H' (own ρ' fps') → D.ct σ' H'
  ex : Exq K pv F H ow
theorem EndsOk.later {K : Fg} {pv : Pins} {F H F1 H1 : Hp} {ow ow1 : AS} {D0 : DEnds} {D : Ends} (e : EndsOk K pv F H ow D0 D) (s : Step F H ow F1 H1 ow1) : EndsOk K pv F1 H1 ow1 D0 D :=
  ⟨fun ρ' σ' H' F' fps' h S t => e.nx ρ' σ' H' F' fps' h S (s.trans t), fun r ρ' σ' v H' F' fps' f h S t er => e.rt r ρ' σ' v H' F' fps' f h S (s.trans t) er, fun ρ' σ' H' F' fps' h S t => e.ct ρ' σ' H' F' fps' h S (s.trans t), e.ex.latr s⟩
def liftS (K : Fg) (pv : Pins) (g : DS) : TS := fun D σ H => ∃ (ρ : Env) (F : Hp) (fps : Fps) (D0 : DEnds), Sta K pv F H σ ρ fps ∧ g D0 ρ ∧ EndsOk K pv F H (own ρ fps) D0 D
def DSv (X : Cx) (pv : Pins) (st : Stmt) (g : DS) : Prop := PS X st (liftS X.K pv g)
def DBv (X : Cx) (pv : Pins) (st : List Stmt) (g : DS) : Prop := PSs X st (liftS X.K pv g)

def gNext : DS := fun D ρ => D.nx ρ
def gSeq (g1 g2 : DS) : DS := fun D ρ => g1 { D with nx := fun ρ1 => g2 D ρ1 } ρ
def gRet (g : DE) : DS := fun D ρ => g ρ fun _ r ρ' => D.rt r ρ'
def gRetN : DS := fun D ρ => D.rt (.cl .none) ρ
def gExpr (g : DE) : DS := fun D ρ => g ρ fun _ _ ρ' => D.nx ρ'
def gIf (t : DT) (a b : DS) : DS := fun D ρ => t ρ fun _ c ρ' => if c = true then a D ρ' else b D ρ'
def gCont : DS := fun D ρ => D.ct ρ
section
variable {X : Cx} {pv : Pins} {pos : Pos} {st : Stmt} {rest : List Stmt} {g g1 g2 : DS}
theorem db_nil : DBv X pv [] gNext := PSs.to pss_nil fun D σ H ⟨ρ, F, fps, D0, S, h, e⟩ => e.nx ρ σ H F fps h S (Step.refl F H _)
theorem db_cons (h1 : DSv X pv st g1) (h2 : DBv X pv rest g2) : DBv X pv (st :: rest) (gSeq g1 g2) :=
  PSs.to (pss_cons h1 h2) fun D σ H ⟨ρ, F, fps, D0, S, h, e⟩ => ⟨ρ, F, fps, _, S, h, ⟨fun ρ' σ' H' F' fps' h' S' s => ⟨ρ', F', fps', D0, S', h', e.later s⟩, e.rt, e.ct, e.ex⟩⟩
theorem db_one (h1 : DSv X pv st g1) : DBv X pv [st] g1 :=
  PSs.to (pss_one h1) fun D σ H ⟨ρ, F, fps, D0, S, h, e⟩ => ⟨ρ, F, fps, D0, S, h, e⟩
theorem ds_ret {e : Expr} {g : DE} (h : DEv X pv e g) : DSv X pv (.Return (some e) pos) (gRet g) :=
  PS.to (ps_ret h) fun D σ H ⟨ρ, F, fps, D0, S, h, e⟩ => ⟨ρ, F, fps, _, S, e.ex, h, fun q r ρ' v H' F' fps' f h' S' s er _ => e.rt r ρ' σ v H' F' fps' f h' S' s er⟩
theorem ds_expr {e : Expr} {g : DE} (h : DEv X pv e g) (hs : swapsWith e none pos.line X.env = pure false := by rfl) : DSv X pv (.Expr e pos) (gExpr g) :=
  PS.to (ps_expr h hs) fun D σ H ⟨ρ, F, fps, D0, S, h, e⟩ => ⟨ρ, F, fps, _, S, e.ex, h, fun q r ρ' v H' F' fps' f h' S' s er _ => e.nx ρ' σ H' F' fps' h' S' s.no⟩
theorem ds_if {c : Expr} {a b : List Stmt} {t : DT} (ht : DTv X pv c t) (h1 : DBv X pv a g1) (h2 : DBv X pv b g2) : DSv X pv (.If c a b pos) (gIf t g1 g2) :=
  PS.to (ps_if ht h1 h2) fun D σ H ⟨ρ, F, fps, D0, S, h, e⟩ => by
    refine ⟨ρ, F, fps, _, S, e.ex, h, fun q b ρ' H' F' fps' h' S' s _ => ?_⟩
    cases b with
    | true => exact ⟨ρ', F', fps', D0, S', h', e.later s⟩
    | false => exact ⟨ρ', F', fps', D0, S', h', e.later s⟩
end

/-! ### a slot is stored -/
def setF (fps : Fps) (i : Nat) (f : AS) : Fps := fun j => if j = i then f else fps j
section
variable {K : Fg} {pv : Pins} {F H : Hp} {σ : St} {ρ : Env} {fps : Fps}
/-- slot i holds o now -/
theorem Sta.put (S : Sta K pv F H σ ρ fps) {i : Nat} {v : V} {o : OV} {f : AS} (hi : ∀ v, pv.l[i]? ≠ some (some v)) (hl : i < ρ.length) (r : RepO K F H v o f) (d : Dsj f (own ρ fps)) :
    Sta K pv F H (σ.set i (some v)) (ρ.set i (some o)) (setF fps i f) ∧ ∀ a, own (ρ.set i (some o)) (setF fps i f) a → own ρ fps a ∨ f a := by
  have hl2 : i < σ.length := by rw [← S.len]; exact hl
  refine ⟨⟨S.le, by rw [List.length_set, List.length_set]; exact S.len, fun j o' e => ?_, fun j j' o1 o2 n e1 e2 => ?_, fun j w e => ?_, S.nt, S.tab⟩, ?_⟩
  · by_cases h : i = j
    · subst h
      rw [List.getElem?_set_self hl] at e
      cases e
      exact ⟨v, by rw [List.getElem?_set_self hl2], by unfold setF; rw [if_pos rfl]; exact r⟩
    · rw [List.getElem?_set_ne h] at e
      obtain ⟨w, h1, h2⟩ := S.rep j o' e
      exact ⟨w, by rw [List.getElem?_set_ne h]; exact h1, by unfold setF; rw [if_neg (fun z => h z.symm)]; exact h2⟩
  · unfold setF
    by_cases h : i = j
    · subst h
      have h' : i ≠ j' := n
      rw [List.getElem?_set_ne h'] at e2
      rw [if_pos rfl, if_neg (fun z => h' z.symm)]
      exact fun a p q => d a p ⟨j', o2, e2, q⟩
    · rw [List.getElem?_set_ne h] at e1
      rw [if_neg (fun z => h z.symm)]
      by_cases h' : i = j'
      · subst h'
        rw [if_pos rfl]
        exact fun a p q => d a q ⟨j, o1, e1, p⟩
      · rw [List.getElem?_set_ne h'] at e2
        rw [if_neg (fun z => h' z.symm)]
        exact S.dis j j' o1 o2 n e1 e2
  · by_cases h : i = j
    · subst h; exact absurd e (hi w)
    · rw [List.getElem?_set_ne h]; exact S.pin j w e
  · rintro a ⟨j, o', e, p⟩
    unfold setF at p
    by_cases h : i = j
    · subst h
      rw [if_pos rfl] at p
      exact .inr p
    · rw [List.getElem?_set_ne h] at e
      rw [if_neg (fun z => h z.symm)] at p
      exact .inl ⟨j, o', e, p⟩
/-- what a result is, to be kept in a slot -/
def keepR (ρ : Env) : Res → Option OV
  | .cl d => some (.fr d)
  | .fr o => some o
  | .sl i p => ((Res.sl i p).ov ρ).bind fun o => o.cln.map OV.fr
theorem keepR_rep (S : Sta K pv F H σ ρ fps) {v : V} {r : Res} {f : AS} {o : OV} (h : RepR K F H σ (own ρ fps) v r f) (e : keepR ρ r = some o) : RepO K F H v o f := by
  cases r with
  | cl d => cases e; exact .fr h.1 h.2
  | fr o' => cases e; exact h.1
  | sl i p =>
    have hn := h.2
    have e : (((Res.sl i p).ov ρ).bind fun o => o.cln.map OV.fr) = some o := e
    cases ho : (Res.sl i p).ov ρ with
    | none => rw [ho] at e; cases e
    | some o1 =>
      rw [ho] at e
      obtain ⟨fp, q, _⟩ := h.rep S ho
      cases o1 with
      | fr d =>
        cases e
        cases q with
        | fr q n => exact .fr q hn
      | lst _ => cases e
      | dct _ => cases e
      | dcT _ => cases e
      | ins _ _ => cases e
      | scr _ => cases e
      | opq _ => cases e
end
def setOV (ρ : Env) (i : Nat) (r : Res) : Option Env := if i < ρ.length then (keepR ρ r).map fun o => ρ.set i (some o) else none
def gSet (i : Nat) (g : DE) : DS := fun D ρ => g ρ fun _ r ρ' => ok (setOV ρ' i r) D.nx
section
variable {X : Cx} {pv : Pins} {pos : Pos}
theorem noPin {pv : Pins} {i : Nat} (h : (pv.l[i]?).join = none) : ∀ v, pv.l[i]? ≠ some (some v) := fun v e => by
  rw [e] at h
  cases h
theorem set_lift {K : Fg} {g : DE} {i : Nat} (hp : (pv.l[i]?).join = none) {D : Ends} {σ : St} {H : Hp} (w : liftS K pv (gSet i g) D σ H) : lift K pv g σ H fun x H1 => gName i x σ H1 D.nx := by
  obtain ⟨ρ, F, fps, D0, S, h, e⟩ := w
  refine ⟨ρ, F, fps, _, S, e.ex, h, fun q r ρ' v H' F' fps' f ⟨ρ2, e2, q0⟩ S' s er _ => ?_⟩
  unfold setOV at e2
  by_cases hl : i < ρ'.length
  · rw [if_pos hl] at e2
    cases hk : keepR ρ' r with
    | none => rw [hk] at e2; cases e2
    | some o =>
      rw [hk] at e2
      cases e2
      have ro := keepR_rep S' er hk
      obtain ⟨S2, o2⟩ := S'.put (noPin hp) hl ro fun a p => (er.out a p).2.2.1
      exact e.nx _ _ H' F' _ q0 S2 (s.less fun c z => (o2 c z).elim .inl .inr)
  · rw [if_neg hl] at e2
    cases e2
theorem ds_set {i : Nat} {x : Str} {e : Expr} {g : DE} {pos' : Pos} (hN : X.N.Nodup) (hi : X.N[i]? = some x) (hx : Loc X.env.scope x) (he : DEv X pv e g) (hp : (pv.l[i]?).join = none := by rfl) (hs : swapsWith e (some (.Name x pos')) pos.line X.env = pure false := by rfl)
    (hf : X.fn x = true ∨ X.env.scope.names.lookup x = some .local := by first | exact .inl rfl | exact .inr rfl | assumption) : DSv X pv (.Assign [.Name x pos'] e pos) (gSet i g) :=
  PS.to (ps_set hN hi hx he hs hf) fun D σ H w => set_lift hp w
end

/-! ### targets of clean data -/
abbrev DG := PyData → Env → (Env → Prop) → Prop
/-- but for the slots ts they are alike -/
def Alike (ts : List Nat) (σ σ' : St) : Prop := σ'.length = σ.length ∧ ∀ k, k ∉ ts → σ'[k]? = σ[k]?
theorem Alike.refl (ts : List Nat) (σ : St) : Alike ts σ σ := ⟨rfl, fun _ _ => rfl⟩
theorem Alike.trans {ts ts' : List Nat} {σ σ' σ2 : St} (a : Alike ts σ σ') (b : Alike ts' σ' σ2) : Alike (ts ++ ts') σ σ2 :=
  ⟨b.1.trans a.1, fun k h => (b.2 k fun z => h (List.mem_append_right _ z)).trans (a.2 k fun z => h (List.mem_append_left _ z))⟩
/-- as Rep, but of a tuple that is taken apart at once it need not be known that it has no dict -/
def RepW (K : Fg) (F : Hp) (v : V) : PyData → Prop
  | .tuple ds => ∃ a vs, v = .ref a ∧ SqT K F a vs ∧ Reps K F vs ds
  | d => Rep K F v d
theorem Rep.w {K : Fg} {F : Hp} {v : V} {d : PyData} (h : Rep K F v d) : RepW K F v d := by
  cases h with
  | tup a b => exact ⟨_, _, rfl, a.t, b⟩
  | none => exact .none
  | bool b => exact .bool b
  | int i => exact .int i
  | str x => exact .str x
  | lst a b => exact .lst a b
  | dct a b => exact .dct a b
def RepB (K : Fg) (F : Hp) (v : V) (d : PyData) : Bool → Prop
  | true => RepW K F v d
  | false => Rep K F v d
theorem Rep.b {K : Fg} {F : Hp} {v : V} {d : PyData} (h : Rep K F v d) : ∀ w : Bool, RepB K F v d w
  | true => h.w
  | false => h
def isTup : Expr → Bool
  | .Tuple _ _ _ => true
  | _ => false
def liftG (K : Fg) (pv : Pins) (ts : List Nat) (w : Bool) (g : DG) : TG := fun v σ H Q => ∃ (ρ : Env) (F : Hp) (fps : Fps) (d : PyData) (Q0 : Env → Prop), Sta K pv F H σ ρ fps ∧ Exq K pv F H (own ρ fps) ∧ RepB K F v d w ∧ g d ρ Q0 ∧
  ∀ ρ' σ' H' F' fps', Q0 ρ' → Sta K pv F' H' σ' ρ' fps' → Step F H (own ρ fps) F' H' (own ρ' fps') → Alike ts σ σ' → Q σ' H'
def DGv (X : Cx) (pv : Pins) (ts : List Nat) (tg : Expr) (g : DG) : Prop := PG X tg (liftG X.K pv ts (isTup tg) g)
abbrev DGs := List PyData → Env → (Env → Prop) → Prop
def liftGs (K : Fg) (pv : Pins) (ts : List Nat) (g : DGs) : TGs := fun vs σ H Q => ∃ (ρ : Env) (F : Hp) (fps : Fps) (ds : List PyData) (Q0 : Env → Prop), Sta K pv F H σ ρ fps ∧ Exq K pv F H (own ρ fps) ∧ Reps K F vs ds ∧ g ds ρ Q0 ∧
  ∀ ρ' σ' H' F' fps', Q0 ρ' → Sta K pv F' H' σ' ρ' fps' → Step F H (own ρ fps) F' H' (own ρ' fps') → Alike ts σ σ' → Q σ' H'
def DGsv (X : Cx) (pv : Pins) (ts : List Nat) (tgs : List Expr) (g : DGs) : Prop := PGs X tgs (liftGs X.K pv ts g)
theorem PG.to {X : Cx} {e : Expr} {t t' : TG} (h : PG X e t) (i : ∀ v σ H Q, t' v σ H Q → t v σ H Q) : PG X e t' := ⟨fun pins s σ H v u Q I r q => h.run pins s σ H v u Q I r (i v σ H Q q)⟩
theorem PGs.to {X : Cx} {e : List Expr} {t t' : TGs} (h : PGs X e t) (i : ∀ v σ H Q, t' v σ H Q → t v σ H Q) : PGs X e t' := ⟨fun pins s σ H v u Q I r q => h.run pins s σ H v u Q I r (i v σ H Q q)⟩
def tgName (i : Nat) : DG := fun d ρ Q => i < ρ.length ∧ Q (ρ.set i (some (.fr d)))
def tgsNil : DGs := fun ds ρ Q => ds = [] ∧ Q ρ
def tgsCons (g : DG) (gs : DGs) : DGs := fun ds ρ Q => match ds with
  | d :: ds => g d ρ fun ρ1 => gs ds ρ1 Q
  | [] => False
def tgTup (n : Nat) (gs : DGs) : DG := fun d ρ Q => match d with
  | .tuple ds => ds.length = n ∧ gs ds ρ Q
  | _ => False
section
variable {X : Cx} {pv : Pins} {pos : Pos}
theorem dg_name {i : Nat} {x : Str} (hN : X.N.Nodup) (hi : X.N[i]? = some x) (hx : Loc X.env.scope x) (hp : (pv.l[i]?).join = none := by rfl) (hf : X.fn x = true ∨ X.env.scope.names.lookup x = some .local := by first | exact .inl rfl | exact .inr rfl | assumption) : DGv X pv [i] (.Name x pos) (tgName i) :=
  PG.to (pg_name hN hi hx hf) fun v σ H Q ⟨ρ, F, fps, d, Q0, S, ex, r, ⟨hl, h⟩, k⟩ => by
    have r : Rep X.K F v d := r
    obtain ⟨S2, o2⟩ := S.put (v := v) (o := .fr d) (f := noA) (noPin hp) hl (.fr r fun _ z => z) fun a z => z.elim
    exact k _ _ H F _ h S2 ((Step.refl F H _).less fun c z => (o2 c z).elim id fun z => z.elim) ⟨by rw [List.length_set], fun j hj => by rw [List.getElem?_set_ne (fun e => hj (by rw [e]; exact List.mem_cons_self ..))]⟩
theorem dgs_nil : DGsv X pv [] [] tgsNil :=
  PGs.to pgs_nil fun v σ H Q ⟨ρ, F, fps, ds, Q0, S, ex, r, ⟨e, h⟩, k⟩ => by
    subst e
    cases r
    exact ⟨rfl, k ρ σ H F fps h S (Step.refl F H _) (Alike.refl _ σ)⟩
theorem dgs_cons {e : Expr} {es : List Expr} {g : DG} {gs : DGs} {ts ts' : List Nat} (h1 : DGv X pv ts e g) (h2 : DGsv X pv ts' es gs) (hs : (assignEach (e :: es) X.env).map (·.2) = assign e X.env :: (assignEach es X.env).map (·.2) := by rfl) : DGsv X pv (ts ++ ts') (e :: es) (tgsCons g gs) :=
  PGs.to (pgs_cons h1 h2 hs) fun vs σ H Q ⟨ρ, F, fps, ds, Q0, S, ex, r, h, k⟩ => by
    cases r with
    | nil => exact h.elim
    | cons r rs =>
      refine ⟨_, _, rfl, ρ, F, fps, _, _, S, ex, r.b _, h, fun ρ1 σ1 H1 F1 fps1 h1 S1 s1 a1 => ?_⟩
      exact ⟨ρ1, F1, fps1, _, Q0, S1, ex.latr s1, rs.mono s1.le, h1, fun ρ2 σ2 H2 F2 fps2 h2 S2 s2 a2 => k ρ2 σ2 H2 F2 fps2 h2 S2 (s1.trans s2) (a1.trans a2)⟩
theorem dg_tup {es : List Expr} {k n : Nat} {gs : DGs} {ts : List Nat} (hc : X.calm = true) (h : DGsv X pv ts es gs) (hn : (assignEach es X.env).length = n := by rfl) (hst : (assignEach es X.env).findIdx? (·.1) = none := by rfl) : DGv X pv ts (.Tuple es k pos) (tgTup n gs) :=
  PG.to (pg_tup hc h hn hst) fun v σ H Q ⟨ρ, F, fps, d, Q0, S, ex, r, h, k⟩ => by
    have r : RepW X.K F v d := r
    cases d with
    | tuple ds =>
      obtain ⟨a, vs, rfl, hq, r⟩ := r
      exact ⟨_, _, rfl, Same.sqT S.le hq, r.length.trans h.1, ρ, F, fps, _, Q0, S, ex, r, h.2, k⟩
    | none => exact h.elim
    | bool _ => exact h.elim
    | int _ => exact h.elim
    | str _ => exact h.elim
    | list _ => exact h.elim
    | dict _ => exact h.elim
/-- target = e, the value clean -/
def gAsg (g : DE) (t : DG) : DS := fun D ρ => g ρ fun _ r ρ' => ok (r.cln ρ') fun d => t d ρ' D.nx
theorem ds_asg {tg e : Expr} {g : DE} {t : DG} {ts : List Nat} (he : DEv X pv e g) (ht : DGv X pv ts tg t) (hs : swapsWithSole [tg] e pos.line X.env = pure false := by rfl) (hw : swappedStores [tg] e X.env = pure none := by rfl) (h1 : (assignEach [tg] X.env).map (·.2) = [assign tg X.env] := by rfl) :
    DSv X pv (.Assign [tg] e pos) (gAsg g t) :=
  PS.to (ps_asg he ht hs hw h1) fun D σ H ⟨ρ, F, fps, D0, S, h, e⟩ => by
    refine ⟨ρ, F, fps, _, S, e.ex, h, fun q r ρ' v H' F' fps' f ⟨d, ed, q0⟩ S' s er _ => ?_⟩
    have G := Grow.frz (tf := f) S'.le (fun a p => (er.out a p).1) er.noT
    have dt : Dsj f (own ρ' fps') := fun a z p => (er.out a z).2.2.1 p
    exact ⟨ρ', _, fps', d, D0.nx, G.sta S' dt, e.ex.latr (G.step s).no, (er.cln S' ed G.le fun a p => addF_in p).b _, q0, fun ρ2 σ2 H2 F2 fps2 h2 S2 s2 _ => e.nx ρ2 σ2 H2 F2 fps2 h2 S2 ((G.step s).no.trans s2)⟩
end
end Dt

namespace Dt
open PySem PySem.Spec PyProof.Rows L2

/-! ### what is walked -/
structure IterOk (K : Fg) (w : Bool) (F0 : Hp) (J : It) (items : List PyData) : Prop where
  go : ∀ F H i, Same F0 F → Same F H → i < items.length → J.go i H
  stop : ∀ F H i, Same F0 F → Same F H → items.length ≤ i → J.stop i H
  yld : ∀ F H i x H' d, Same F0 F → Same F H → items[i]? = some d → J.yld i H x H' → ∃ F', RepB K F' x d w ∧ Grow F H noA F' H' noA
abbrev DI := Env → (List PyData → Env → Prop) → Prop
def liftI (K : Fg) (pv : Pins) (w : Bool) (g : DI) : TI := fun σ H R => ∃ (ρ : Env) (F : Hp) (fps : Fps) (Q0 : List PyData → Env → Prop), Sta K pv F H σ ρ fps ∧ Exq K pv F H (own ρ fps) ∧ g ρ Q0 ∧
  ∀ items ρ' J H' F' fps', Q0 items ρ' → Sta K pv F' H' σ ρ' fps' → Step F H (own ρ fps) F' H' (own ρ' fps') → IterOk K w F' J items → R J H'
def DIv (X : Cx) (pv : Pins) (tg iter : Expr) (g : DI) : Prop := PI X tg iter (liftI X.K pv (isTup tg) g)
theorem PI.to {X : Cx} {tg e : Expr} {t t' : TI} (h : PI X tg e t) (i : ∀ σ H R, t' σ H R → t σ H R) : PI X tg e t' := ⟨fun pins s σ H R I q => h.run pins s σ H R I (i σ H R q)⟩

def wipeE (ρ : Env) : List Nat → Env
  | [] => ρ
  | i :: is => (wipeE ρ is).set i none
theorem wipeE_length (ρ : Env) : ∀ is, (wipeE ρ is).length = ρ.length
  | [] => rfl
  | i :: is => by unfold wipeE; rw [List.length_set, wipeE_length ρ is]
theorem wipeE_some {ρ : Env} {i : Nat} {o : OV} : ∀ {is : List Nat}, (wipeE ρ is)[i]? = some (some o) → ρ[i]? = some (some o) ∧ i ∉ is
  | [], h => ⟨h, by simp⟩
  | j :: is, h => by
    unfold wipeE at h
    by_cases hi : j = i
    · subst hi
      by_cases hj : j < (wipeE ρ is).length
      · rw [List.getElem?_set_self hj] at h; cases h
      · rw [List.getElem?_eq_none (by simpa using hj)] at h; cases h
    · rw [List.getElem?_set_ne hi] at h
      obtain ⟨h1, h2⟩ := wipeE_some h
      exact ⟨h1, by simp only [List.mem_cons, not_or]; exact ⟨fun e => hi e.symm, h2⟩⟩
section
variable {K : Fg} {pv : Pins} {F H F0 H0 : Hp} {σ : St} {ρ : Env} {fps : Fps} {ow : AS}
theorem Sta.wipe (S : Sta K pv F H σ ρ fps) (is : List Nat) : Sta K pv F H σ (wipeE ρ is) fps := S.wk (wipeE_length ρ is) fun i o e => (wipeE_some e).1
theorem own_wipe {is : List Nat} {a : Addr} (h : own (wipeE ρ is) fps a) : own ρ fps a := by
  obtain ⟨i, o, e, p⟩ := h
  exact ⟨i, o, (wipeE_some e).1, p⟩
end

/-! ### for -/
def forL (t : DG) (fg : List Nat) (body : DS) (D : DEnds) : List PyData → Env → Prop
  | [], ρ => D.nx ρ
  | x :: xs, ρ => t x ρ fun ρ1 => body { D with nx := fun ρ2 => forL t fg body D xs (wipeE ρ2 fg), ct := fun ρ2 => forL t fg body D xs (wipeE ρ2 fg) } ρ1
def gFor (gi : DI) (t : DG) (fg : List Nat) (body : DS) : DS := fun D ρ => gi ρ fun items ρ' => forL t fg body D items ρ'
section
variable {X : Cx} {pv : Pins} {pos : Pos}
theorem ds_for {iter tg : Expr} {body : List Stmt} {gi : DI} {t : DG} {g : DS} {ts : List Nat} (fg : List Nat) (hp : PassesOwn (model X.prog X.w) X.A X.env X.xe) (hc : X.calm = true) (hi : DIv X pv tg iter gi) (ht : DGv X pv ts tg t) (hb : DBv X pv body g)
    (hs : ∀ x, foldedSetIterable iter X.env x = pure x := by intro _; rfl) : DSv X pv (.For tg iter body [] pos) (gFor gi t fg g) :=
  PS.to (ps_for hp hc hi ht hb hs) fun D σ H ⟨ρ, F, fps, D0, S, h, e⟩ => by
    refine ⟨ρ, F, fps, _, S, e.ex, h, fun items ρ' J H' F' fps' h' S' s it => ?_⟩
    refine ⟨fun i m σ2 H2 => ∃ ρ2 F2 fps2, Sta X.K pv F2 H2 σ2 ρ2 fps2 ∧ Step F' H' (own ρ' fps') F2 H2 (own ρ2 fps2) ∧ i ≤ items.length ∧ m = items.length - i ∧ forL t fg g D0 (items.drop i) ρ2,
      ⟨items.length, ρ', F', fps', S', Step.refl F' H' _, Nat.zero_le _, rfl, h'⟩, ?_⟩
    rintro i m σ2 H2 ⟨ρ2, F2, fps2, S2, s2, hi, rfl, hf⟩
    by_cases hlt : i < items.length
    · refine .inr ⟨it.go F2 H2 i s2.le S2.le hlt, fun σ3 H3 => ∃ ρ3 F3 fps3, Sta X.K pv F3 H3 σ3 ρ3 fps3 ∧ Step F' H' (own ρ' fps') F3 H3 (own ρ3 fps3) ∧ forL t fg g D0 (items.drop (i + 1)) (wipeE ρ3 fg), ?_, fun x H3 hy => ?_⟩
      · rintro σ3 H3 ⟨ρ3, F3, fps3, S3, s3, h3⟩
        exact ⟨items.length - (i + 1), by omega, wipeE ρ3 fg, F3, fps3, S3.wipe fg, s3.less fun c z => own_wipe z, hlt, rfl, h3⟩
      · have hd : items.drop i = items[i] :: items.drop (i + 1) := List.drop_eq_getElem_cons hlt
        rw [hd] at hf
        obtain ⟨F3, r3, G⟩ := it.yld F2 H2 i x H3 items[i] s2.le S2.le (List.getElem?_eq_getElem hlt) hy
        have S3 := G.sta S2 fun a z _ => z.elim
        have s3 : Step F2 H2 (own ρ2 fps2) F3 H3 (own ρ2 fps2) := (G.step S2.same).no
        refine ⟨ρ2, F3, fps2, items[i], _, S3, e.ex.latr ((s.trans s2).trans s3), r3, hf, fun ρ4 σ4 H4 F4 fps4 h4 S4 s4 _ => ?_⟩
        have s5 := (s2.trans s3).trans s4
        refine ⟨ρ4, F4, fps4, _, S4, h4, ⟨fun ρ6 σ6 H6 F6 fps6 h6 S6 s6 => ⟨ρ6, F6, fps6, S6, s5.trans s6, h6⟩, fun r ρ6 σ6 v H6 F6 fps6 f h6 S6 s6 er => ?_, fun ρ6 σ6 H6 F6 fps6 h6 S6 s6 => ⟨ρ6, F6, fps6, S6, s5.trans s6, h6⟩, e.ex.latr (s.trans s5)⟩⟩
        exact (e.later s).rt r ρ6 σ6 v H6 F6 fps6 f h6 S6 (s5.trans s6) er
    · have e2 : i = items.length := by omega
      subst e2
      rw [List.drop_length] at hf
      exact .inl ⟨it.stop F2 H2 _ s2.le S2.le (Nat.le_refl _), (e.later s).nx ρ2 σ2 H2 F2 fps2 hf S2 s2⟩

/-! ### while -/
def gWhile (t : DT) (fg : List Nat) (body : DS) : DS := fun D ρ => ∃ (I : Env → Prop) (μ : Env → Nat), I ρ ∧ ∀ ρ1, I ρ1 → t ρ1 fun _ b ρ2 =>
  if b = true then body { D with nx := fun ρ3 => I (wipeE ρ3 fg) ∧ μ (wipeE ρ3 fg) < μ ρ1, ct := fun ρ3 => I (wipeE ρ3 fg) ∧ μ (wipeE ρ3 fg) < μ ρ1 } ρ2 else D.nx ρ2
theorem ds_while {c : Expr} {body : List Stmt} {t : DT} {g : DS} (fg : List Nat) (hp : PassesOwn (model X.prog X.w) X.A X.env X.xe) (ht : DTv X pv c t) (hb : DBv X pv body g) : DSv X pv (.While c body [] pos) (gWhile t fg g) :=
  PS.to (ps_while hp ht hb) fun D σ H ⟨ρ, F, fps, D0, S, ⟨I, μ, h0, hs⟩, e⟩ => by
    refine ⟨fun m σ2 H2 => ∃ ρ2 F2 fps2, Sta X.K pv F2 H2 σ2 ρ2 fps2 ∧ Step F H (own ρ fps) F2 H2 (own ρ2 fps2) ∧ m = μ ρ2 ∧ I ρ2, ⟨_, ρ, F, fps, S, Step.refl F H _, rfl, h0⟩, ?_⟩
    rintro m σ2 H2 ⟨ρ2, F2, fps2, S2, s2, rfl, i2⟩
    refine ⟨ρ2, F2, fps2, _, S2, e.ex.latr s2, hs ρ2 i2, fun q b ρ3 H3 F3 fps3 h3 S3 s3 _ => ?_⟩
    cases b with
    | false => exact e.nx ρ3 σ2 H3 F3 fps3 h3 S3 (s2.trans s3)
    | true =>
      rw [if_pos rfl] at h3 ⊢
      refine ⟨fun σ4 H4 => ∃ ρ4 F4 fps4, Sta X.K pv F4 H4 σ4 ρ4 fps4 ∧ Step F H (own ρ fps) F4 H4 (own ρ4 fps4) ∧ I (wipeE ρ4 fg) ∧ μ (wipeE ρ4 fg) < μ ρ2, ?_, ρ3, F3, fps3, _, S3, h3, ?_⟩
      · rintro σ4 H4 ⟨ρ4, F4, fps4, S4, s4, i4, l4⟩
        exact ⟨_, l4, wipeE ρ4 fg, F4, fps4, S4.wipe fg, s4.less fun c z => own_wipe z, rfl, i4⟩
      · have s5 := s2.trans s3
        exact ⟨fun ρ6 σ6 H6 F6 fps6 h6 S6 s6 => ⟨ρ6, F6, fps6, S6, s5.trans s6, h6.1, h6.2⟩, fun r ρ6 σ6 v H6 F6 fps6 f h6 S6 s6 er => e.rt r ρ6 σ6 v H6 F6 fps6 f h6 S6 (s5.trans s6) er,
          fun ρ6 σ6 H6 F6 fps6 h6 S6 s6 => ⟨ρ6, F6, fps6, S6, s5.trans s6, h6.1, h6.2⟩, e.ex.latr s5⟩
end

/-! ### what can be walked -/
/-- a list or a tuple; what is fresh is frozen -/
def itemsR (ρ : Env) (r : Res) : Option (Bool × List PyData) := (r.cln ρ).bind fun d => match d with
  | .list ds => some (true, ds)
  | .tuple ds => some (false, ds)
  | _ => none
theorem Reps.get {K : Fg} {F : Hp} : ∀ {vs : List V} {ds : List PyData} {i : Nat} {d : PyData} {x : V}, Reps K F vs ds → ds[i]? = some d → vs[i]? = some x → Rep K F x d
  | _, _, _, _, _, .nil, e, _ => by simp at e
  | _, _, 0, _, _, .cons r _, e1, e2 => by simp at e1 e2; subst e1; subst e2; exact r
  | _, _, i + 1, _, _, .cons _ t, e1, e2 => Reps.get t (by simpa using e1) (by simpa using e2)
theorem Reps.has {K : Fg} {F : Hp} {vs : List V} {ds : List PyData} {i : Nat} (r : Reps K F vs ds) (h : i < ds.length) : ∃ x, vs[i]? = some x := ⟨vs[i]'(by rw [r.length]; exact h), List.getElem?_eq_getElem _⟩
theorem iter_list {K : Fg} {w : Bool} {F : Hp} {a : Addr} {vs : List V} {ds : List PyData} (h : SqL K F a vs) (r : Reps K F vs ds) : IterOk K w F (Itl K a) ds where
  go := fun F1 H1 i e1 e2 hi => let ⟨x, hx⟩ := r.has hi; ⟨vs, x, (e1.trans e2).seq h, hx⟩
  stop := fun F1 H1 i e1 e2 hi => ⟨vs, (e1.trans e2).seq h, by rw [r.length]; exact hi⟩
  yld := fun F1 H1 i x H' d e1 e2 hd hy => by
    obtain ⟨rfl, hy⟩ := hy
    exact ⟨F1, (r.get hd (hy vs ((e1.trans e2).seq h))).mono e1 |>.b _, Grow.refl e2⟩
theorem iter_tup {K : Fg} {w : Bool} {F : Hp} {a : Addr} {vs : List V} {ds : List PyData} (h : SqT K F a vs) (r : Reps K F vs ds) : IterOk K w F (Itt K a) ds where
  go := fun F1 H1 i e1 e2 hi => let ⟨x, hx⟩ := r.has hi; ⟨vs, x, Same.sqT (e1.trans e2) h, hx⟩
  stop := fun F1 H1 i e1 e2 hi => ⟨vs, Same.sqT (e1.trans e2) h, by rw [r.length]; exact hi⟩
  yld := fun F1 H1 i x H' d e1 e2 hd hy => by
    obtain ⟨rfl, hy⟩ := hy
    exact ⟨F1, (r.get hd (hy vs (Same.sqT (e1.trans e2) h))).mono e1 |>.b _, Grow.refl e2⟩
def rangeD (lo : Int) (n : Nat) : List PyData := (List.range n).map fun i => .int (lo + (i : Nat))
theorem iter_range {K : Fg} {w : Bool} {F : Hp} {lo : Int} {n : Nat} : IterOk K w F (Itr lo n) (rangeD lo n) where
  go := fun F1 H1 i e1 e2 hi => by
    have : i < n := by simpa [rangeD] using hi
    exact this
  stop := fun F1 H1 i e1 e2 hi => by
    have : n ≤ i := by simpa [rangeD] using hi
    exact this
  yld := fun F1 H1 i x H' d e1 e2 hd hy => by
    obtain ⟨rfl, rfl⟩ := hy
    have hi : i < n := by
      have := (List.getElem?_eq_some_iff.mp hd).1
      simpa [rangeD] using this
    have e : d = .int (lo + (i : Nat)) := by
      unfold rangeD at hd
      rw [List.getElem?_map, List.getElem?_range hi] at hd
      exact (Option.some.inj hd).symm
    subst e
    exact ⟨F1, (Rep.int _).b _, Grow.refl e2⟩

section
variable {X : Cx} {pv : Pins} {pos : Pos} {tg : Expr}
/-- the walk of a list, of a tuple; which one it is must be told -/
def giSeq (isL : Bool) (g : DE) : DI := fun ρ Q => g ρ fun _ r ρ' => ok (itemsR ρ' r) fun p => p.1 = isL ∧ Q p.2 ρ'
theorem itemsR_rep {K : Fg} {F H : Hp} {σ : St} {ρ : Env} {fps : Fps} {v : V} {r : Res} {f : AS} {b : Bool} {ds : List PyData} (S : Sta K pv F H σ ρ fps) (h : RepR K F H σ (own ρ fps) v r f) (e : itemsR ρ r = some (b, ds)) :
    Grow F H f (addF F H f) H noA ∧ ∃ a vs, v = .ref a ∧ Reps K (addF F H f) vs ds ∧ ((b = true ∧ SqL K (addF F H f) a vs) ∨ (b = false ∧ SqT K (addF F H f) a vs)) := by
  have G := Grow.frz (tf := f) S.le (fun a p => (h.out a p).1) h.noT
  refine ⟨G, ?_⟩
  unfold itemsR at e
  cases hc : r.cln ρ with
  | none => rw [hc] at e; cases e
  | some d =>
    rw [hc] at e
    have rp := h.cln S hc G.le fun a p => addF_in p
    cases rp with
    | lst hq r => cases e; exact ⟨_, _, rfl, r, .inl ⟨rfl, .of hq⟩⟩
    | tup hq r => cases e; exact ⟨_, _, rfl, r, .inr ⟨rfl, hq.t⟩⟩
    | none => cases e
    | bool _ => cases e
    | int _ => cases e
    | str _ => cases e
    | dct _ _ => cases e
/-- the walk of a list or a tuple, whichever it is -/
def giAny (g : DE) : DI := fun ρ Q => g ρ fun _ r ρ' => ok (itemsR ρ' r) fun p => Q p.2 ρ'
def tAnyI (K : Fg) (tl : TE) : TI := fun σ H R => tl σ H fun x H1 => ∃ a, x = .ref a ∧ (((∃ xs, SqL K H1 a xs) ∧ R (Itl K a) H1) ∨ ((∃ xs, SqT K H1 a xs) ∧ R (Itt K a) H1))
theorem pi_any {l : Expr} {tl : TE} (hl : PE X l tl) : PI X tg l (tAnyI X.K tl) := ⟨fun pins s σ H R I h => by
  refine thn (hl.run pins s σ H _ I h) fun u s2 ⟨x, G, J, rel, z⟩ => ?_
  obtain ⟨a, ex, z⟩ := z
  cases ex
  obtain rfl : u = Value.ref a := rel
  have nw : ∀ b ∈ [s2.heap.objs.size], FpOk X pins G b := fun b hb => by
    rw [List.mem_singleton] at hb
    rw [hb]
    exact J.fpOk (Nat.le_refl _) (J.hok.fresh (Nat.le_refl _))
  rcases z with ⟨⟨ys, sq⟩, z⟩ | ⟨⟨ys, sq⟩, z⟩
  · obtain ⟨_, _, at_, _⟩ := J.list sq
    exact wpAny_pyIter_list at_.isList ⟨s2.heap.objs.size, _, _, _, G, rfl, J.kept (t' := s2.toks) (fun _ _ e => Heap.get?_push_of_some _ e), turn_list a _, ⟨_, Heap.get?_push_size _ rfl, rfl, rfl⟩, nw, z⟩
  · obtain ⟨us, _, at_, _⟩ := J.tuple sq
    exact wpAny_pyIter_tuple (show s2.heap.IsTuple a us.toArray from at_) ⟨s2.heap.objs.size, _, _, _, G, rfl, J.kept (t' := s2.toks) (fun _ _ e => Heap.get?_push_of_some _ e), turn_tuple a _, ⟨_, Heap.get?_push_size _ rfl, rfl, rfl⟩, nw, z⟩⟩
theorem di_any {e : Expr} {g : DE} (h : DEv X pv e g) : DIv X pv tg e (giAny g) :=
  PI.to (pi_any h) fun σ H R ⟨ρ, F, fps, Q0, S, ex, h, k⟩ => by
    refine ⟨ρ, F, fps, _, S, ex, h, fun q r ρ' v H' F' fps' f ⟨⟨b, ds⟩, e, q0⟩ S' s er _ => ?_⟩
    obtain ⟨G, a, vs, rfl, rr, ⟨_, hq⟩ | ⟨_, hq⟩⟩ := itemsR_rep S' er e
    · have dt : Dsj f (own ρ' fps') := fun a z p => (er.out a z).2.2.1 p
      exact ⟨a, rfl, .inl ⟨⟨vs, G.inn.seq hq⟩, k ds ρ' _ H' _ fps' q0 (G.sta S' dt) (G.step s).no (iter_list hq rr)⟩⟩
    · have dt : Dsj f (own ρ' fps') := fun a z p => (er.out a z).2.2.1 p
      exact ⟨a, rfl, .inr ⟨⟨vs, Same.sqT G.inn hq⟩, k ds ρ' _ H' _ fps' q0 (G.sta S' dt) (G.step s).no (iter_tup hq rr)⟩⟩
def asI : Res → Option Int
  | .cl (.int i) => some i
  | _ => none
theorem asI_rep {K : Fg} {F H : Hp} {σ : St} {ow : AS} {v : V} {r : Res} {f : AS} {i : Int} (h : RepR K F H σ ow v r f) (e : asI r = some i) : v = .int i ∧ ∀ a, ¬ f a := by
  cases r with
  | cl d =>
    cases d with
    | int c =>
      have e : some c = some i := e
      cases e
      obtain ⟨h1, h2⟩ := h
      cases h1
      exact ⟨rfl, h2⟩
    | none => cases e
    | bool _ => cases e
    | str _ => cases e
    | list _ => cases e
    | tuple _ => cases e
    | dict _ => cases e
  | fr o => cases e
  | sl i p => cases e
def intsR : List Res → Option (List Int)
  | [] => some []
  | r :: rs => (asI r).bind fun i => (intsR rs).bind fun is => some (i :: is)
theorem intsR_rep {K : Fg} {F H : Hp} {σ : St} {ow : AS} : ∀ {vs : List V} {rs : List Res} {f : AS} {is : List Int}, RepRs K F H σ ow vs rs f → intsR rs = some is → vs = is.map V.int ∧ ∀ a, ¬ f a
  | [], [], f, is, h, e => by
    have e : some [] = some is := e
    cases e
    exact ⟨rfl, h⟩
  | v :: vs, r :: rs, f, is, ⟨f1, f2, h1, h2, _, ef⟩, e => by
    have e : ((asI r).bind fun i => (intsR rs).bind fun is => some (i :: is)) = some is := e
    cases e1 : asI r with
    | none => rw [e1] at e; cases e
    | some i =>
      rw [e1] at e
      cases e2 : intsR rs with
      | none => rw [e2] at e; cases e
      | some is' =>
        rw [e2] at e
        cases e
        obtain ⟨rfl, n1⟩ := asI_rep h1 e1
        obtain ⟨rfl, n2⟩ := intsR_rep h2 e2
        exact ⟨rfl, fun a p => ((ef a).mp p).elim (n1 a) (n2 a)⟩
  | [], _ :: _, _, _, h, _ => h.elim
  | _ :: _, [], _, _, h, _ => h.elim
def B62 (i : Int) : Prop := -(2 ^ 62) ≤ i ∧ i < 2 ^ 62
def giRng1 (ga : DA) : DI := fun ρ Q => ga ρ fun _ rs ρ' => ok (intsR rs) fun is => ∃ j, is = [j] ∧ B62 j ∧ Q (rangeD 0 j.toNat) ρ'
def giRng2 (ga : DA) : DI := fun ρ Q => ga ρ fun _ rs ρ' => ok (intsR rs) fun is => ∃ i j, is = [i, j] ∧ B62 i ∧ B62 j ∧ Q (rangeD i (j - i).toNat) ρ'
theorem di_range1 {a : Expr} {ga : DA} {p : Pos} (hg : Gl X "range") (hm : X.mg "range" = none) (ha : DAv X pv [a] ga) (hs : starEach [a] X.env = [(false, eval a X.env)] := by rfl) : DIv X pv tg (.Call (.Name "range" p) [a] [] pos) (giRng1 ga) :=
  PI.to (pi_range1 hg hm ha hs) fun σ H R ⟨ρ, F, fps, Q0, S, ex, h, k⟩ => by
    refine ⟨ρ, F, fps, _, S, ex, h, fun q rs ρ' vs H' F' fps' f ⟨is, e, j, ej, bj, q0⟩ S' s er _ => ?_⟩
    obtain ⟨rfl, _⟩ := intsR_rep er e
    subst ej
    exact ⟨j, rfl, bj.1, bj.2, k _ ρ' _ H' F' fps' q0 S' s.no iter_range⟩
theorem di_range2 {a b : Expr} {ga : DA} {p : Pos} (hg : Gl X "range") (hm : X.mg "range" = none) (ha : DAv X pv [a, b] ga) (hs : starEach [a, b] X.env = [(false, eval a X.env), (false, eval b X.env)] := by rfl) (hs2 : starEach [b] X.env = [(false, eval b X.env)] := by rfl) :
    DIv X pv tg (.Call (.Name "range" p) [a, b] [] pos) (giRng2 ga) :=
  PI.to (pi_range2 hg hm ha hs hs2) fun σ H R ⟨ρ, F, fps, Q0, S, ex, h, k⟩ => by
    refine ⟨ρ, F, fps, _, S, ex, h, fun q rs ρ' vs H' F' fps' f ⟨is, e, i, j, ej, bi, bj, q0⟩ S' s er _ => ?_⟩
    obtain ⟨rfl, _⟩ := intsR_rep er e
    subst ej
    exact ⟨i, j, rfl, ⟨bi.1, bi.2, bj.1, bj.2⟩, k _ ρ' _ H' F' fps' q0 S' s.no iter_range⟩
end
end Dt

namespace Dt
open PySem PySem.Spec PyProof.Rows L2

/-! ### list comprehensions -/
theorem wipe_none {σ : St} {k : Nat} : ∀ {vs : List Nat}, k ∈ vs → (wipe σ vs)[k]? = if k < σ.length then some none else none
  | [], h => by simp at h
  | v :: vs, h => by
    unfold wipe
    by_cases e : v = k
    · subst e
      by_cases hl : v < (wipe σ vs).length
      · rw [List.getElem?_set_self hl, if_pos (by rw [wipe_length] at hl; exact hl)]
      · rw [List.getElem?_eq_none (by rw [List.length_set]; omega), if_neg (by rw [wipe_length] at hl; exact hl)]
    · rw [List.getElem?_set_ne e]
      rcases List.mem_cons.mp h with z | z
      · exact absurd z.symm e
      · exact wipe_none z
theorem Alike.wiped {ts vs : List Nat} {σ σ' : St} (a : Alike ts σ σ') (h : ∀ i ∈ ts, i ∈ vs) : wipe σ' vs = wipe σ vs := by
  apply List.ext_getElem?
  intro k
  by_cases hk : k ∈ vs
  · rw [wipe_none hk, wipe_none hk, a.1]
  · rw [wipe_out hk, wipe_out hk, a.2 k fun z => hk (h k z)]
section
variable {K : Fg} {pv : Pins} {F H F1 H1 F2 H2 : Hp} {σ : St} {ρ ρ1 ρ2 : Env} {fps fps1 fps2 : Fps} {vs : List Nat}
theorem Sta.wipeS (S : Sta K pv F H σ ρ fps) (hp : ∀ i ∈ vs, (pv.l[i]?).join = none) : Sta K pv F H (L2.wipe σ vs) (wipeE ρ vs) fps :=
  ⟨S.le, by rw [wipeE_length, wipe_length]; exact S.len, fun i o e => by
    obtain ⟨e1, e2⟩ := wipeE_some e
    obtain ⟨v, h1, h2⟩ := S.rep i o e1
    exact ⟨v, by rw [wipe_out e2]; exact h1, h2⟩, fun i j o o' n e e' => S.dis i j o o' n (wipeE_some e).1 (wipeE_some e').1, fun i v e => by
    have hi : i ∉ vs := fun z => noPin (hp i z) v e
    rw [wipe_out hi]
    exact S.pin i v e, S.nt, S.tab⟩
theorem Sta.unwipe (S : Sta K pv F H (L2.wipe σ vs) ρ fps) (S0 : ∀ (i : Nat) (v : V), pv.l[i]? = some (some v) → σ[i]? = some (some v)) : Sta K pv F H σ ρ fps :=
  ⟨S.le, by rw [S.len, wipe_length], fun i o e => by
    obtain ⟨v, h1, h2⟩ := S.rep i o e
    exact ⟨v, (wipe_some h1).1, h2⟩, S.dis, S0, S.nt, S.tab⟩
/-- a cell that is neither frozen nor owned, written -/
theorem Sta.aside (S : Sta K pv F H σ ρ fps) {D : Addr} {o : HO} (nF : F D = none) (no : ¬ own ρ fps D) (nD : NoTb (H D)) (hC : NoEx (H D)) : Sta K pv F (upd H D o) σ ρ fps :=
  S.grow (Same.refl F) (fun a u e => by
    have ne : a ≠ D := fun z => by subst z; rw [nF] at e; cases e
    rw [upd_ne ne]; exact S.le a u e) S.nt (Tabs.aside S.tab nD hC) fun a p => by
    have ne : a ≠ D := fun z => by subst z; exact no p
    exact ⟨upd_ne ne, (S.ow_out p).1⟩
theorem Step.asideW {D : Addr} {o : HO} {ow ow' : AS} (s : Step F1 H1 ow F H ow') (hD : H1 D = none) : Step F1 H1 ow F (upd H D o) ow' :=
  ⟨s.le, fun a h1 h2 h3 => by
    obtain ⟨q1, q2, q3⟩ := s.fr a h1 h2 h3
    have ne : a ≠ D := fun z => by subst z; exact h1 hD
    exact ⟨by rw [upd_ne ne]; exact q1, q2, q3⟩⟩
end
def lcL (vs : List Nat) (t : DG) (tt : DT) (el : DE) (Q : List PyData → Env → Prop) : List PyData → Env → List PyData → Prop
  | [], ρ, acc => Q acc ρ
  | x :: xs, ρ, acc => t x (wipeE ρ vs) fun ρ1 => tt ρ1 fun _ b ρ2 => if b = true then el ρ2 fun _ r ρ3 => ok (r.cln ρ3) fun d => acc.length < sizeLine ∧ lcL vs t tt el Q xs ρ3 (acc ++ [d]) else lcL vs t tt el Q xs ρ2 acc
def gLc (vs : List Nat) (gi : DI) (t : DG) (tt : DT) (el : DE) : DE := fun ρ Q => gi ρ fun items ρ1 => lcL vs t tt el (fun ds ρ2 => Q false (.fr (.lst ds)) (wipeE ρ2 vs)) items ρ1 []
def gYes : DT := fun ρ Q => Q true true ρ
theorem gYes_lift {K : Fg} {pv : Pins} {σ : St} {H : Hp} {Q : Bool → Hp → Prop} (w : liftT K pv gYes σ H Q) : tYes σ H Q := by
  obtain ⟨ρ, F, fps, Q0, S, ex, h, k⟩ := w
  exact k true true ρ H F fps h S (Step.refl F H _) fun _ => ⟨LamX.ExtN.refl H, rfl, rfl⟩
theorem PTs.to {X : Cx} {e : List Expr} {t t' : TT} (h : PTs X e t) (i : ∀ σ H Q, t' σ H Q → t σ H Q) : PTs X e t' := ⟨fun pins s σ H Q I q => h.run pins s σ H Q I (i σ H Q q)⟩
def DTsv (X : Cx) (pv : Pins) (ifs : List Expr) (g : DT) : Prop := PTs X ifs (liftT X.K pv g)
section
variable {X : Cx} {pv : Pins}
theorem dts_nil : DTsv X pv [] gYes := PTs.to pts_nil fun _ _ _ w => gYes_lift w
theorem dts_one {c : Expr} {g : DT} (h : DTv X pv c g) : DTsv X pv [c] g := pts_one h
end
theorem Reps.snoc {K : Fg} {F : Hp} {v : V} {d : PyData} (r : Rep K F v d) : ∀ {vs : List V} {ds : List PyData}, Reps K F vs ds → Reps K F (vs ++ [v]) (ds ++ [d])
  | _, _, .nil => .cons r .nil
  | _, _, .cons h t => .cons h (Reps.snoc r t)
theorem lc_lift {K : Fg} {pv : Pins} {wt : Bool} {vs ts : List Nat} {gi : DI} {t : DG} {tt : DT} {el : DE} (hv : ∀ i ∈ ts, i ∈ vs) (hp : ∀ i ∈ vs, (pv.l[i]?).join = none) {σ : St} {H : Hp} {Q : VK} (w : lift K pv (gLc vs gi t tt el) σ H Q) :
    tLc (liftI K pv wt gi) (liftG K pv ts wt t) (liftT K pv tt) (lift K pv el) vs σ H Q := by
  obtain ⟨ρ, F, fps, Q0, S, ex, h, k⟩ := w
  refine ⟨ρ, F, fps, _, S, ex, h, fun items ρ1 J H1 F1 fps1 h1 S1 s1 it => fun D hD => ?_⟩
  refine ⟨fun i m H2 => ∃ ρ2 F2 fps2 acc avs, Sta K pv F2 H2 (wipe σ vs) (wipeE ρ2 vs) fps2 ∧ Step F1 H1 (own ρ1 fps1) F2 H2 (own (wipeE ρ2 vs) fps2) ∧ i ≤ items.length ∧ m = items.length - i ∧ H2 D = some (.lst avs) ∧ F2 D = none ∧ ¬ own (wipeE ρ2 vs) fps2 D ∧
      Reps K F2 avs acc ∧ lcL vs t tt el (fun ds ρ2 => Q0 false (.fr (.lst ds)) (wipeE ρ2 vs)) (items.drop i) ρ2 acc, ⟨items.length, ρ1, F1, fps1, [], [], ?_⟩, ?_⟩
  · have nF : F1 D = none := by
      cases q : F1 D with
      | none => rfl
      | some o => have := S1.le _ _ q; rw [hD] at this; cases this
    have no : ¬ own (wipeE ρ1 vs) fps1 D := fun z => (S1.ow_out (own_wipe z)).2.1 hD
    exact ⟨(S1.wipeS hp).aside nF no (by rw [hD]; exact fun _ z => nomatch z) (by rw [hD]; exact fun _ z => nomatch z), ((Step.refl F1 H1 _).less fun c z => own_wipe z).asideW hD, Nat.zero_le _, rfl, upd_same, nF, no, .nil, h1⟩
  rintro i m H2 ⟨ρ2, F2, fps2, acc, avs, S2, s2, hi, rfl, eD, nF, no, ra, hf⟩
  by_cases hlt : i < items.length
  · refine .inr ⟨it.go F2 H2 i s2.le S2.le hlt, fun H7 => ∃ ρ3 F3 fps3 acc' avs', Sta K pv F3 H7 (wipe σ vs) (wipeE ρ3 vs) fps3 ∧ Step F1 H1 (own ρ1 fps1) F3 H7 (own (wipeE ρ3 vs) fps3) ∧ H7 D = some (.lst avs') ∧ F3 D = none ∧ ¬ own (wipeE ρ3 vs) fps3 D ∧
        Reps K F3 avs' acc' ∧ lcL vs t tt el (fun ds ρ2 => Q0 false (.fr (.lst ds)) (wipeE ρ2 vs)) (items.drop (i + 1)) ρ3 acc', ?_, fun x H3 hy => ?_⟩
    · rintro H7 ⟨ρ3, F3, fps3, acc', avs', S3, s3, e3, n3, o3, r3, h3⟩
      exact ⟨items.length - (i + 1), by omega, ρ3, F3, fps3, acc', avs', S3, s3, hlt, rfl, e3, n3, o3, r3, h3⟩
    · have hd : items.drop i = items[i] :: items.drop (i + 1) := List.drop_eq_getElem_cons hlt
      rw [hd] at hf
      obtain ⟨F3, r3, G⟩ := it.yld F2 H2 i x H3 items[i] s2.le S2.le (List.getElem?_eq_getElem hlt) hy
      have S3 := G.sta S2 fun a z _ => z.elim
      have s3 : Step F2 H2 (own (wipeE ρ2 vs) fps2) F3 H3 (own (wipeE ρ2 vs) fps2) := (G.step S2.same).no
      refine ⟨wipeE ρ2 vs, F3, fps2, items[i], _, S3, ex.latr ((s1.trans s2).trans s3), r3, hf, fun ρ4 σ4 H4 F4 fps4 h4 S4 s4 al => ⟨al.wiped hv |>.trans (by
        have : wipe (wipe σ vs) vs = wipe σ vs := (Alike.wiped (ts := vs) (σ := σ) (σ' := wipe σ vs) ⟨wipe_length σ vs, fun k hk => wipe_out hk⟩ fun _ z => z)
        exact this), ?_⟩⟩
      have wq : wipe σ4 vs = wipe σ vs := al.wiped hv |>.trans (Alike.wiped (ts := vs) (σ := σ) (σ' := wipe σ vs) ⟨wipe_length σ vs, fun k hk => wipe_out hk⟩ fun _ z => z)
      have s34 := s3.trans s4
      obtain ⟨d1, d2, d3⟩ := s34.fr D (by rw [eD]; simp) nF no
      have d1 := d1.eq (by rw [eD]; exact fun _ z => nomatch z)
      refine ⟨ρ4, F4, fps4, _, S4, ex.latr ((s1.trans s2).trans s34), h4, fun q b ρ5 H5 F5 fps5 h5 S5 s5 _ => ?_⟩
      obtain ⟨e1, e2, e3⟩ := s5.fr D (by rw [d1, eD]; simp) d2 d3
      have e1 := e1.eq (by rw [d1, eD]; exact fun _ z => nomatch z)
      have e4 : H5 D = some (.lst avs) := e1.trans (d1.trans eD)
      have s25 := s2.trans (s34.trans s5)
      cases b with
      | false =>
        rw [if_neg Bool.false_ne_true] at h5 ⊢
        refine ⟨ρ5, F5, fps5, acc, avs, by rw [← wq]; exact S5.wipeS hp, s25.less fun c z => own_wipe z, e4, e2, fun z => e3 (own_wipe z), ra.mono (s34.trans s5).le, h5⟩
      | true =>
        rw [if_pos rfl] at h5 ⊢
        refine ⟨ρ5, F5, fps5, _, S5, ex.latr (s1.trans s25), h5, fun q2 r ρ6 y H6 F6 fps6 f ⟨d, ed, hz, h6⟩ S6 s6 er _ => ?_⟩
        obtain ⟨g1, g2, g3⟩ := s6.fr D (by rw [e4]; simp) e2 e3
        have g1 := g1.eq (by rw [e4]; exact fun _ z => nomatch z)
        have nf : ¬ f D := fun z => g3 (.inr z)
        have nw : ¬ own ρ6 fps6 D := fun z => g3 (.inl z)
        have GG := Grow.frz (tf := f) S6.le (fun a p => (er.out a p).1) er.noT
        have dt : Dsj f (own ρ6 fps6) := fun a z p => (er.out a z).2.2.1 p
        have S7 := GG.sta S6 dt
        have s7 := (GG.step s6).no
        have ry := er.cln S6 ed GG.le fun a p => addF_in p
        have hD6 : H6 D = some (.lst avs) := g1.trans e4
        have rall : Reps K (addF F6 H6 f) avs acc := ra.mono ((s34.trans s5).trans s7).le
        refine ⟨avs, hD6, by rw [rall.length]; exact hz, ρ6, addF F6 H6 f, fps6, acc ++ [d], avs ++ [y], ?_, ?_, upd_same, by rw [addF_no nf]; exact g2, fun z => nw (own_wipe z), Reps.snoc ry rall, h6⟩
        · rw [← wq]
          exact (S7.wipeS hp).aside (by rw [addF_no nf]; exact g2) (fun z => nw (own_wipe z)) (by rw [hD6]; exact fun _ z => nomatch z) (by rw [hD6]; exact fun _ z => nomatch z)
        · exact ((s25.trans s7).less fun c z => own_wipe z).asideW hD
  · have e2 : i = items.length := by omega
    subst e2
    rw [List.drop_length] at hf
    refine .inl ⟨it.stop F2 H2 _ s2.le S2.le (Nat.le_refl _), ?_⟩
    refine k false _ (wipeE ρ2 vs) (.ref D) H2 F2 fps2 (fun a => a = D) hf (S2.unwipe S.pin) ⟨s1.le.trans s2.le, fun a h1 h2 h3 => ?_⟩ ⟨.lst eD nF ra fun b => Iff.rfl, fun a e p => ?_⟩ fun z => by cases z
    · obtain ⟨q1, q2, q3⟩ := s1.fr a h1 h2 h3
      have n1 : H1 a ≠ none := q1.ne h1
      obtain ⟨r1, r2, r3⟩ := s2.fr a n1 q2 q3
      refine ⟨q1.trans r1, r2, ?_⟩
      rintro (z | z)
      · exact r3 z
      · have z : a = D := z
        subst z
        exact n1 hD
    · have e : a = D := e
      subst e
      exact no p
section
variable {X : Cx} {pv : Pins} {pos : Pos} {elt tg iter : Expr} {ifs : List Expr} {scope : Scope} {own : List (Str × Nat)} {gi : DI} {t : DG} {tt : DT} {el : DE} {ts : List Nat}
theorem dv_lc (hc : X.calm = true) (hN : X.N.Nodup) (hi : DIv X pv tg iter gi) (ok : BlkOk X.N X.env.scope scope own)
    (hg : ∀ (s : Shared) (H : Hp) (C : Addr) (cl : List (Str × Addr)) (fp : List Addr), DGv (X.blk s H scope (compEnvC scope cl C X.env) fp) pv ts tg t)
    (ht : ∀ (s : Shared) (H : Hp) (C : Addr) (cl : List (Str × Addr)) (fp : List Addr), DTsv (X.blk s H scope (compEnvC scope cl C X.env) fp) pv ifs tt)
    (he : ∀ (s : Shared) (H : Hp) (C : Addr) (cl : List (Str × Addr)) (fp : List Addr), DEv (X.blk s H scope (compEnvC scope cl C X.env) fp) pv elt el)
    (hv : ∀ i ∈ ts, i ∈ own.map (·.2) := by decide) (hp : ∀ i ∈ own.map (·.2), (pv.l[i]?).join = none) (hs : ∀ x, foldedSetIterable iter X.env x = pure x := by intro _; rfl) :
    DEv X pv (.ListComp elt [⟨tg, iter, ifs, 0⟩] scope pos) (gLc (own.map (·.2)) gi t tt el) :=
  PE.to (pe_lc (g := liftG X.K pv ts (isTup tg) t) (tt := liftT X.K pv tt) (te := lift X.K pv el) hc hN hi ok hg ht he hs) fun _ _ _ w => lc_lift hv hp w
/-- name = [..] on one line -/
theorem ds_setLc {i : Nat} {y : Str} {py spos : Pos} (hc : X.calm = true) (hN : X.N.Nodup) (hy : X.N[i]? = some y) (hyl : X.env.scope.names.lookup y = some .local) (hsw : swapsWith (.ListComp elt [⟨tg, iter, ifs, 0⟩] scope pos) (some (.Name y py)) spos.line X.env = pure true)
    (hi : DIv X pv tg iter gi) (ok : BlkOk X.N X.env.scope scope own)
    (hg : ∀ (s : Shared) (H : Hp) (C : Addr) (cl : List (Str × Addr)) (fp : List Addr), DGv (X.blk s H scope (compEnvC scope cl C X.env) fp) pv ts tg t)
    (ht : ∀ (s : Shared) (H : Hp) (C : Addr) (cl : List (Str × Addr)) (fp : List Addr), DTsv (X.blk s H scope (compEnvC scope cl C X.env) fp) pv ifs tt)
    (he : ∀ (s : Shared) (H : Hp) (C : Addr) (cl : List (Str × Addr)) (fp : List Addr), DEv (X.blk s H scope (compEnvC scope cl C X.env) fp) pv elt el)
    (hpi : (pv.l[i]?).join = none := by rfl) (hv : ∀ i ∈ ts, i ∈ own.map (·.2) := by decide) (hp : ∀ i ∈ own.map (·.2), (pv.l[i]?).join = none) (hs : ∀ x, foldedSetIterable iter X.env x = pure x := by intro _; rfl) :
    DSv X pv (.Assign [.Name y py] (.ListComp elt [⟨tg, iter, ifs, 0⟩] scope pos) spos) (gSet i (gLc (own.map (·.2)) gi t tt el)) :=
  PS.to (ps_setLc (g := liftG X.K pv ts (isTup tg) t) (tt := liftT X.K pv tt) (te := lift X.K pv el) hc hN hy hyl hsw hi ok hg ht he hs) fun D σ H w => lc_lift hv hp (set_lift hpi w)
end
end Dt

namespace Dt
open PySem PySem.Spec PyProof.Rows L2

/-! ### a def's promise where no repr is under way -/
structure FnG (P : Program) (w : World) (K : Fg) (mg : Str → Option Value) (base : Heap) (CX : CXT) (k : Nat) (f : Addr) (fd : FuncData) (ps : List Str) (sp : Sp) : Prop where
  len : ∀ vs H Q E, sp vs H Q E → vs.length = ps.length
  run : ∀ (A : Around) (outer : List PySem.Env) (s : Shared) (H : Hp) (args : Args) (us : List Value) (vs : List V) (Q : VK) (E : XK), Room k A → A.guards = some [] → Env0 P w K mg base A outer s H →
    BindsTo s fd args (ps.zip us) → Vals vs us → sp vs H Q E → codeAny (model P w) A (.call (.ref f) args) (CR CX outer P w H s Q E) s
theorem FnG.mono {P : Program} {w : World} {K : Fg} {mg : Str → Option Value} {base : Heap} {CX : CXT} {j k : Nat} {f : Addr} {fd : FuncData} {ps : List Str} {sp : Sp} (F : FnG P w K mg base CX j f fd ps sp) (h : j ≤ k) : FnG P w K mg base CX k f fd ps sp :=
  ⟨F.len, fun A outer s H args us vs Q E hr => F.run A outer s H args us vs Q E (hr.mono h)⟩
/-- a weaker promise -/
theorem FnG.imp {P : Program} {w : World} {K : Fg} {mg : Str → Option Value} {base : Heap} {CX : CXT} {k : Nat} {f : Addr} {fd : FuncData} {ps : List Str} {sp sp' : Sp} (F : FnG P w K mg base CX k f fd ps sp)
    (h : ∀ vs H Q E, sp' vs H Q E → sp vs H Q E) : FnG P w K mg base CX k f fd ps sp' :=
  ⟨fun vs H Q E q => F.len vs H Q E (h _ _ _ _ q), fun A outer s H args us vs Q E hr hg he hb hv hs => F.run A outer s H args us vs Q E hr hg he hb hv (h _ _ _ _ hs)⟩

theorem Fun.okG {P : Program} {w : World} {K : Fg} {mg : Str → Option Value} {base : Heap} {CX : CXT} {x qual : Str} {st : Stmt} {f : Addr} {fd : FuncData} {N ps : List Str} {k : Nat} {sp : Sp} (Fu : Fun K x qual st f fd) (S : FnScope N ps (defScope st)) (len : ∀ vs H Q E, sp vs H Q E → vs.length = ps.length)
    (hbody : ∀ (cdv : Value) (A : Around) (outer : List PySem.Env) (s : Shared) (H : Hp) (vs : List V) (Q : VK) (E : XK), Room k (A.deeper (envOfC qual (defScope st) s.heap.objs.size f cdv)) → A.guards = some [] → sp vs H Q E →
      ∃ t, PSs (cxOf CX P w K mg base N qual (defScope st) f cdv A outer s H E) (defBody st) t ∧ t { nx := fun _ H' => Q .non H', rt := Q } (start N vs) H) : FnG P w K mg base CX (k + 1) f fd ps sp := by
  obtain ⟨oc, od, kV, doc, pm, an, cdv, ct, osl, rfl, lk, hcd⟩ := Fu.ex
  refine ⟨len, fun A outer s H args us vs Q E hr hgd en hb rv hsp => ?_⟩
  have lenv := len _ _ _ _ hsp
  have Kin : K.In s.heap := en.mod.kin.keeps fun b o e => (en.bs b o e).1
  have nol : s.heap.NoLimit := en.mod.nolimit.keeps fun b o e => (en.bs b o e).1
  have kinds : ∀ y ∈ ps.zip us, (defScope st).names.lookup y.1 = some .local ∨ ((defScope st).names.lookup y.1 = some .cell ∧ ((cellsFrom (s.heap.objs.size + 1) (defScope st).names []).lookup y.1).isSome = true) := fun ⟨nm, _⟩ hy =>
    (S.par nm (List.of_mem_zip hy).1).elim Or.inl fun q => .inr ⟨q, PySem.W.cellsFrom_some _ _ _ (.inl q)⟩
  refine codeAny_call_function hr.depth (Kin _ _ lk) rfl S.co S.gen rfl (PySem.W.codeRec_of Kin hcd) (hb _ _ _ _ (wpAny_newFunctionEnv_cells S.kind kinds fun env henv s1 xin => ?_))
  subst henv
  refine ⟨nol.keeps xin.toInCall.keep, codeAny_func ?_⟩
  obtain ⟨t, ht, hq⟩ := hbody cdv A outer s H vs Q E (hr.deeper _) hgd hsp
  have I0 : Inv (cxOf CX P w K mg base N qual (defScope st) f cdv A outer s H E) [] (start N vs) H s1 := inv_start S hr.hd en lenv rv xin
  have done : ∀ {σ' : St} {H' : Hp} {v : V} {u : Value} {s' : Shared}, Inv (cxOf CX P w K mg base N qual (defScope st) f cdv A outer s H E) [] σ' H' s' → RelV v u → Q v H' → CE outer P w H s Q u s' :=
    fun {σ' H' v u s'} J rv q => ⟨v, H', J.os, J.bare, J.base, J.hok, rv, q⟩
  refine wpAny_mono (ht.run [] s1 (start N vs) H _ I0 hq) (fun fl s' hs => ?_) fun e s' hs => hs
  match fl, hs with
  | .ret u, ⟨v, σ', H', J, rv, q⟩ => exact done J rv q
  | .next, ⟨σ', H', J, q⟩ => exact done (v := V.non) (u := Value.none) J rfl q
  | .brk, ⟨_, _, _, q⟩ => exact q.elim
  | .cont, ⟨_, _, _, q⟩ => exact q.elim

section
variable {X : Cx} {CX : CXT} {k : Nat} {f : Addr} {fd : FuncData} {ps : List Str} {sp : Sp} {dvs : List V} {ds : List Value} {E : XK} {x : Str} {p pos : Pos} {e : Expr} {es : List Expr} {t : TA}
theorem run_fnG {pins : List (Addr × Obj)} {σ : St} {H : Hp} {s : Shared} {Q : VK} {args : Args} {us : List Value} {vs : List V} (Fn : FnG X.prog X.w X.K X.mg X.base CX k f fd ps sp) (hr : Room k X.A) (hgd : X.A.guards = some []) (hx : Passes CX X E)
    (I : Inv X pins σ H s) (hb : BindsTo s fd args (ps.zip us)) (r : Vals vs us) (h : sp vs H Q E) : codeAny (model X.prog X.w) X.A (.call (.ref f) args) (fun r s' => match r with | .ok (.ret u) => EP X pins σ Q u s' | .ok _ => False | .error e => X.xe e s') s := by
  refine codeAny_mono (Fn.run X.A X.stack s H args us vs Q E hr hgd I.env0 hb r h) fun rr s' hq => ?_
  match rr, hq with
  | .error e, hq => exact hx pins σ H s e s' I hq
  | .ok (.ret u), hq => exact I.after hq
theorem call_fnG {pins : List (Addr × Obj)} {σ : St} {H : Hp} {s : Shared} {Q : VK} {us : List Value} {vs : List V} (Fn : FnG X.prog X.w X.K X.mg X.base CX k f fd ps sp) (hr : Room k X.A) (hgd : X.A.guards = some []) (hb : Binds X.K fd ps ds) (hd : Vals dvs ds) (hx : Passes CX X E)
    (I : Inv X pins σ H s) (r : Vals vs us) (h : sp (vs ++ dvs) H Q E) : wpAny (model X.prog X.w) X.A (call (.ref f) us) (EP X pins σ Q) X.xe s := by
  have r2 : Vals (vs ++ dvs) (us ++ ds) := r.append hd
  have hl : (us ++ ds).length = ps.length := r2.length.symm.trans (Fn.len _ _ _ _ h)
  refine wpAny_call (codeAny_mono (run_fnG Fn hr hgd hx I (hb s us I.kIn hl) r2 h) fun rr s' hq => ?_)
  match rr, hq with
  | .error e, hq => exact hq
  | .ok (.ret u), hq => exact hq
theorem pe_callG (Fn : FnG X.prog X.w X.K X.mg X.base CX k f fd ps sp) (hr : Room k X.A) (hgd : X.A.guards = some []) (hg : Gl X x) (hm : X.mg x = some (.ref f)) (hk : PySem.W.keepIn X.K (.ref f) = true) (hb : Binds X.K fd ps ds) (hd : Vals dvs ds) (hx : Passes CX X E)
    (ha : PA X (e :: es) t) (hdb : (x == ("__debug__" : Str)) = false := by decide) (he : starEach (e :: es) X.env = (false, eval e X.env) :: starEach es X.env := by rfl) (hpl : (backTo pos (starEach es X.env)).any (·.1) = false := by rfl) :
    PE X (.Call (.Name x p) (e :: es) [] pos) (tCall sp dvs E t) :=
  ⟨fun pins s σ H Q I h => wpAny_Call_Name_kw (ld_glob I hg hm (PySem.W.callWith_K (h₀ := X.base) I.ok.mod.kin hk (thn (ha.run pos pins s σ H _ I h) fun us s1 ⟨vs, H1, I1, r, q⟩ => ⟨I1.kIn, call_fnG Fn hr hgd hb hd hx I1 r q⟩) he hpl) hdb)⟩
end

/-! ### a def's promise by data -/
abbrev Spec := List OV → (Res → Env → Prop) → Prop
/-- .. of a def that may raise -/
abbrev SpecX := List OV → (Res → Env → Prop) → (Exc → Env → Prop) → Prop
def spX (K : Fg) (T : Tbl) (n : Nat) (G : SpecX) : Sp := fun vs H Q E => ∃ (os : List OV) (F : Hp) (fps : Fps) (Q0 : Res → Env → Prop) (X0 : Exc → Env → Prop), os.length = n ∧ Sta K (Pins.no T) F H (vs.map some) (os.map some) fps ∧ G os Q0 X0 ∧
  (∀ r ρ' v H' F' fps' f, Q0 r ρ' → Sta K (Pins.no T) F' H' (vs.map some) ρ' fps' → Step F H (own (os.map some) fps) F' H' (orA (own ρ' fps') f) → RepR K F' H' [] (own ρ' fps') v r f → Q v H') ∧
  (∀ x ρ' d H' F' fps', X0 x ρ' → Sta K (Pins.no T) F' H' (vs.map some) ρ' fps' → Step F H (own (os.map some) fps) F' H' (own ρ' fps') → RepX K F' x d → E (.ref (T.cx x.cls)) d H')
abbrev spD (K : Fg) (T : Tbl) (n : Nat) (G : Spec) : Sp := spX K T n fun os Q _ => G os Q
theorem spX_len {K : Fg} {T : Tbl} {n : Nat} {G : SpecX} : ∀ vs H Q E, spX K T n G vs H Q E → vs.length = n := fun vs H Q E ⟨os, F, fps, Q0, X0, hn, S, _⟩ => by
  have := S.len
  rw [List.length_map, List.length_map] at this
  omega
/-- pinned are the in-out parameters -/
def pinsOf : List Bool → List V → List (Option V)
  | b :: io, v :: vs => (if b = true then some v else none) :: pinsOf io vs
  | _, _ => []
/-- what is told of the arguments at the end: the in-out ones -/
def maskE : List Bool → Env → Env
  | b :: io, o :: ρ => (if b = true then o else none) :: maskE io ρ
  | _ :: io, [] => none :: maskE io []
  | [], _ => []
/-- what is handed back -/
def retR (io : List Bool) (ρ : Env) : Res → Option Res
  | .cl d => some (.cl d)
  | .fr o => some (.fr o)
  | .sl i [] => if (io[i]?).getD false = true then none else match ρ[i]? with
    | some (some o) => some (.fr o)
    | _ => none
  | .sl i p => (((Res.sl i p).ov ρ).bind OV.cln).map Res.cl
def rtD (io : List Bool) (Q0 : Res → Env → Prop) : DEnds := { nx := fun ρ => Q0 (.cl .none) (maskE io ρ), rt := fun r ρ => ok (retR io ρ r) fun r' => Q0 r' (maskE io ρ) }
theorem pinsOf_get : ∀ {io : List Bool} {vs : List V} {i : Nat} {v : V}, (pinsOf io vs)[i]? = some (some v) → vs[i]? = some v ∧ io[i]? = some true
  | b :: io, v0 :: vs, 0, v, e => by
    unfold pinsOf at e
    rw [List.getElem?_cons_zero] at e
    cases b with
    | true => rw [if_pos rfl] at e; cases e; exact ⟨rfl, rfl⟩
    | false => rw [if_neg Bool.false_ne_true] at e; cases e
  | b :: io, v0 :: vs, i + 1, v, e => by
    unfold pinsOf at e
    rw [List.getElem?_cons_succ] at e ⊢
    rw [List.getElem?_cons_succ]
    exact pinsOf_get e
  | [], _, _, _, e => by unfold pinsOf at e; simp at e
  | _ :: _, [], _, _, e => by unfold pinsOf at e; simp at e
theorem pinsOf_at : ∀ {io : List Bool} {vs : List V} {i : Nat} {v : V}, vs[i]? = some v → io[i]? = some true → (pinsOf io vs)[i]? = some (some v)
  | b :: io, v0 :: vs, 0, v, e, e2 => by
    rw [List.getElem?_cons_zero] at e e2
    cases e
    cases e2
    unfold pinsOf
    rfl
  | b :: io, v0 :: vs, i + 1, v, e, e2 => by
    unfold pinsOf
    rw [List.getElem?_cons_succ] at e e2 ⊢
    exact pinsOf_at e e2
  | [], _, _, _, _, e => by simp at e
  | _ :: _, [], _, _, e, _ => by simp at e
theorem maskE_get : ∀ {io : List Bool} {ρ : Env} {i : Nat} {o : OV}, (maskE io ρ)[i]? = some (some o) → ρ[i]? = some (some o) ∧ io[i]? = some true
  | b :: io, v0 :: vs, 0, v, e => by
    unfold maskE at e
    rw [List.getElem?_cons_zero] at e
    cases b with
    | true => rw [if_pos rfl] at e; exact ⟨by rw [List.getElem?_cons_zero]; exact e, rfl⟩
    | false => rw [if_neg Bool.false_ne_true] at e; cases e
  | b :: io, v0 :: vs, i + 1, v, e => by
    unfold maskE at e
    rw [List.getElem?_cons_succ] at e ⊢
    rw [List.getElem?_cons_succ]
    exact maskE_get e
  | [], _, _, _, e => by unfold maskE at e; simp at e
  | _ :: io, [], 0, _, e => by unfold maskE at e; simp at e
  | _ :: io, [], i + 1, _, e => by
    unfold maskE at e
    rw [List.getElem?_cons_succ] at e
    have := (maskE_get e).1
    simp at this
theorem maskE_len : ∀ {io : List Bool} {ρ : Env}, (maskE io ρ).length = io.length
  | b :: io, o :: ρ => by unfold maskE; rw [List.length_cons, List.length_cons, maskE_len]
  | [], _ => by unfold maskE; rfl
  | _ :: io, [] => by unfold maskE; rw [List.length_cons, List.length_cons, maskE_len]
/-- the arguments, then nothing -/
def startE (n : Nat) (os : List OV) : Env := os.map some ++ List.replicate (n - os.length) none
theorem noPinOf {io : List Bool} {vs : List V} {i : Nat} (h : io[i]? ≠ some true) : ((pinsOf io vs)[i]?).join = none := by
  cases e : (pinsOf io vs)[i]? with
  | none => rfl
  | some o =>
    cases o with
    | none => rfl
    | some v => exact absurd (pinsOf_get e).2 h
theorem startE_get {n : Nat} {os : List OV} {i : Nat} {o : OV} (e : (startE n os)[i]? = some (some o)) : (os.map some)[i]? = some (some o) ∧ i < os.length := by
  unfold startE at e
  by_cases h : i < os.length
  · rw [List.getElem?_append_left (by rw [List.length_map]; exact h)] at e
    exact ⟨e, h⟩
  · rw [List.getElem?_append_right (by rw [List.length_map]; omega), List.getElem?_replicate] at e
    split at e <;> cases e
theorem start_get {N : List Str} {vs : List V} {i : Nat} (h : i < vs.length) : (start N vs)[i]? = (vs.map some)[i]? := by
  unfold L2.start
  rw [List.getElem?_append_left (by rw [List.length_map]; exact h)]
section
variable {P : Program} {w : World} {K : Fg} {mg : Str → Option Value} {base : Heap} {x qual : Str} {st : Stmt} {f : Addr} {fd : FuncData} {N ps : List Str} {k : Nat}
theorem spX_start {io : List Bool} {T : Tbl} {G : SpecX} {g : (Exc → Env → Prop) → DS} {vs : List V} {H : Hp} {Q : VK} {E : XK} (hio : io.length = ps.length) (hN : ps.length ≤ N.length)
    (hG : ∀ os Q0 X0, os.length = ps.length → G os Q0 X0 → g (fun x ρ => X0 x (maskE io ρ)) (rtD io Q0) (startE N.length os)) (hs : spX K T ps.length G vs H Q E) :
    ∃ X0, liftS K ⟨pinsOf io vs, T, X0, fun c d _ H' => E c d H'⟩ (g X0) { nx := fun _ H' => Q .non H', rt := Q } (start N vs) H := by
  have hl := spX_len vs H Q E hs
  obtain ⟨os, F, fps, Q0, X0, hn, S, hg, k, kx⟩ := hs
  refine ⟨fun x ρ => X0 x (maskE io ρ), ?_⟩
  generalize hpv : (⟨pinsOf io vs, T, fun x ρ => X0 x (maskE io ρ), fun c d _ H' => E c d H'⟩ : Pins) = pv
  have epl : pv.l = pinsOf io vs := by rw [← hpv]
  have epT : pv.T = T := by rw [← hpv]
  have S0 : Sta K pv F H (start N vs) (startE N.length os) fps := ⟨S.le, by
      unfold startE L2.start
      rw [List.length_append, List.length_append, List.length_map, List.length_map, List.length_replicate, List.length_replicate]
      omega, fun i o e => by
      obtain ⟨e1, e2⟩ := startE_get e
      obtain ⟨v, h1, h2⟩ := S.rep i o e1
      exact ⟨v, by rw [start_get (by omega)]; exact h1, h2⟩, fun i j o o' n e e' => S.dis i j o o' n (startE_get e).1 (startE_get e').1, fun i v e => by
      rw [epl] at e
      obtain ⟨e1, _⟩ := pinsOf_get e
      have hi : i < vs.length := (List.getElem?_eq_some_iff.mp e1).1
      rw [start_get hi, List.getElem?_map, e1]
      rfl, S.nt, by rw [epT]; exact S.tab⟩
  have ow : ∀ a, own (os.map some) fps a → own (startE N.length os) fps a := fun a ⟨i, o, e, p⟩ => ⟨i, o, by
    unfold startE
    rw [List.getElem?_append_left (List.getElem?_eq_some_iff.mp e).1]
    exact e, p⟩
  have fin : ∀ {ρ' : Env} {σ' : St} {H' F' : Hp} {fps' : Fps}, Sta K pv F' H' σ' ρ' fps' → Sta K (Pins.no T) F' H' (vs.map some) (maskE io ρ') fps' := fun {ρ' σ' H' F' fps'} S' =>
    ⟨S'.le, by rw [maskE_len, List.length_map]; omega, fun i o e => by
      obtain ⟨e1, e2⟩ := maskE_get e
      obtain ⟨v, h1, h2⟩ := S'.rep i o e1
      have hi : i < vs.length := by
        have := (List.getElem?_eq_some_iff.mp e2).1
        omega
      have hv : vs[i]? = some vs[i] := List.getElem?_eq_getElem hi
      have := S'.pin i vs[i] (by rw [epl]; exact pinsOf_at hv e2)
      rw [h1] at this
      cases this
      exact ⟨vs[i], by rw [List.getElem?_map, hv]; rfl, h2⟩, fun i j o o' n e e' => S'.dis i j o o' n (maskE_get e).1 (maskE_get e').1, fun i v e => by
      have e : ([] : List (Option V))[i]? = some (some v) := e
      simp at e, S'.nt, by have := S'.tab; rw [epT] at this; exact this⟩
  have own_mask : ∀ {ρ' : Env} {fps' : Fps} {a : Addr}, own (maskE io ρ') fps' a → own ρ' fps' a := fun {ρ' fps' a} ⟨i, o, e, p⟩ => ⟨i, o, (maskE_get e).1, p⟩
  refine ⟨startE N.length os, F, fps, rtD io Q0, S0, hG os Q0 X0 hn hg, ⟨fun ρ' σ' H' F' fps' h S' s => ?_, fun r ρ' σ' v H' F' fps' f ⟨r', er', h⟩ S' s er => ?_, fun ρ' σ' H' F' fps' h S' s => h.elim, fun x ρ' σ' d F' H' fps' h S' s er => ?_⟩⟩
  · refine k _ (maskE io ρ') .non H' F' fps' noA h (fin S') ⟨s.le, fun a h1 h2 h3 => ?_⟩ ⟨.none, fun _ z => z⟩
    obtain ⟨q1, q2, q3⟩ := s.fr a h1 h2 fun z => h3 (by
      obtain ⟨i, o, e, p⟩ := z
      exact ⟨i, o, (startE_get e).1, p⟩)
    exact ⟨q1, q2, fun z => z.elim (fun z => q3 (own_mask z)) fun z => z.elim⟩
  · have back : ∀ a, H a ≠ none → F a = none → ¬ own (os.map some) fps a → Kp (H a) (H' a) ∧ F' a = none ∧ ¬ orA (own ρ' fps') f a := fun a h1 h2 h3 => s.fr a h1 h2 fun z => h3 (by
      obtain ⟨i, o, e, p⟩ := z
      exact ⟨i, o, (startE_get e).1, p⟩)
    cases r with
    | cl d =>
      cases er'
      exact k _ _ v H' F' fps' f h (fin S') ⟨s.le, fun a h1 h2 h3 => ⟨(back a h1 h2 h3).1, (back a h1 h2 h3).2.1, fun z => (back a h1 h2 h3).2.2 (z.elim (fun z => .inl (own_mask z)) .inr)⟩⟩ er
    | fr o =>
      cases er'
      exact k _ _ v H' F' fps' f h (fin S') ⟨s.le, fun a h1 h2 h3 => ⟨(back a h1 h2 h3).1, (back a h1 h2 h3).2.1, fun z => (back a h1 h2 h3).2.2 (z.elim (fun z => .inl (own_mask z)) .inr)⟩⟩ ⟨er.1, fun a p q => er.2 a p (own_mask q)⟩
    | sl i ps =>
      cases ps with
      | nil =>
        have e1 : (if (io[i]?).getD false = true then none else match ρ'[i]? with
          | some (some o) => some (Res.fr o)
          | _ => none) = some r' := er'
        by_cases hb : (io[i]?).getD false = true
        · rw [if_pos hb] at e1; cases e1
        · rw [if_neg hb] at e1
          cases hr : ρ'[i]? with
          | none => rw [hr] at e1; cases e1
          | some oo =>
            cases oo with
            | none => rw [hr] at e1; cases e1
            | some o =>
              rw [hr] at e1
              cases e1
              obtain ⟨⟨u, hu, hw⟩, _⟩ := er
              have hw : v = u := hw
              subst hw
              obtain ⟨u', hu', ro⟩ := S'.rep i o hr
              rw [hu] at hu'
              cases hu'
              have ni : ∀ {a : Addr}, own (maskE io ρ') fps' a → ¬ fps' i a := fun {a} ⟨j, o', e, p⟩ q => by
                obtain ⟨e1, e2⟩ := maskE_get e
                have ne : i ≠ j := fun z => by subst z; rw [e2] at hb; exact hb rfl
                exact S'.dis i j o o' ne hr e1 a q p
              refine k _ _ v H' F' fps' (fps' i) h (fin S') ⟨s.le, fun a h1 h2 h3 => ⟨(back a h1 h2 h3).1, (back a h1 h2 h3).2.1, fun z => (back a h1 h2 h3).2.2 (.inl (z.elim own_mask fun z => ⟨i, o, hr, z⟩))⟩⟩ ⟨ro, fun a p q => ni q p⟩
      | cons p ps =>
        have e1 : (((Res.sl i (p :: ps)).ov ρ').bind OV.cln).map Res.cl = some r' := er'
        cases ho : (Res.sl i (p :: ps)).ov ρ' with
        | none => rw [ho] at e1; cases e1
        | some o =>
          rw [ho] at e1
          obtain ⟨fp, q, _⟩ := er.rep S' ho
          cases o with
          | fr d =>
            cases e1
            cases q with
            | fr q n =>
              exact k _ _ v H' F' fps' noA h (fin S') ⟨s.le, fun a h1 h2 h3 => ⟨(back a h1 h2 h3).1, (back a h1 h2 h3).2.1, fun z => (back a h1 h2 h3).2.2 (z.elim (fun z => .inl (own_mask z)) fun z => z.elim)⟩⟩ ⟨q, fun _ z => z⟩
          | lst _ => cases e1
          | dct _ => cases e1
          | dcT _ => cases e1
          | ins _ _ => cases e1
          | scr _ => cases e1
          | opq _ => cases e1
  · subst hpv
    refine kx x (maskE io ρ') d H' F' fps' h (fin S') ⟨s.le, fun a h1 h2 h3 => ?_⟩ er
    obtain ⟨q1, q2, q3⟩ := s.fr a h1 h2 fun z => h3 (by
      obtain ⟨i, o, e, p⟩ := z
      exact ⟨i, o, (startE_get e).1, p⟩)
    exact ⟨q1, q2, fun z => q3 (own_mask z)⟩
/-- the pins of a def that lets no exception out -/
abbrev pvD (T : Tbl) (io : List Bool) (vs : List V) : Pins := ⟨pinsOf io vs, T, fun _ _ => False, fun _ _ _ _ => False⟩
theorem liftS_noX {K : Fg} {l : List (Option V)} {T : Tbl} {X0 : Exc → Env → Prop} {W : WX} {g : DS} {D : Ends} {σ : L2.St} {H : Hp} (h : liftS K ⟨l, T, X0, W⟩ g D σ H) : liftS K ⟨l, T, fun _ _ => False, fun _ _ _ _ => False⟩ g D σ H := by
  obtain ⟨ρ, F, fps, D0, S, hg, e⟩ := h
  have to : ∀ {F' H' σ' ρ' fps'}, Sta K ⟨l, T, fun _ _ => False, fun _ _ _ _ => False⟩ F' H' σ' ρ' fps' → Sta K ⟨l, T, X0, W⟩ F' H' σ' ρ' fps' := fun S => ⟨S.le, S.len, S.rep, S.dis, S.pin, S.nt, S.tab⟩
  exact ⟨ρ, F, fps, D0, ⟨S.le, S.len, S.rep, S.dis, S.pin, S.nt, S.tab⟩, hg, ⟨fun ρ' σ' H' F' fps' h S' s => e.nx ρ' σ' H' F' fps' h (to S') s, fun r ρ' σ' v H' F' fps' f h S' s er => e.rt r ρ' σ' v H' F' fps' f h (to S') s er, fun ρ' σ' H' F' fps' h S' s => e.ct ρ' σ' H' F' fps' h (to S') s, fun x ρ' σ' d F' H' fps' h => h.elim⟩⟩
/-- THE RULE for a def that lets no exception out -/
theorem fnD (Fu : Fun K x qual st f fd) (S : FnScope N ps (defScope st)) (T : Tbl) (io : List Bool) {G : Spec} {g : DS} (hio : io.length = ps.length) (hN : ps.length ≤ N.length)
    (hb : ∀ (cdv : Value) (A : Around) (outer : List PySem.Env) (s : Shared) (H : Hp) (E : XK) (vs : List V), Room k (A.deeper (envOfC qual (defScope st) s.heap.objs.size f cdv)) → A.guards = some [] →
      DBv (cxOf CX0 P w K mg base N qual (defScope st) f cdv A outer s H E).nox (pvD T io vs) (defBody st) g)
    (hG : ∀ os Q0, os.length = ps.length → G os Q0 → g (rtD io Q0) (startE N.length os)) : FnG P w K mg base CX0 (k + 1) f fd ps (spD K T ps.length G) :=
  Fun.okG Fu S spX_len fun cdv A outer s H vs Q E hr hgd hs => ⟨_, (hb cdv A outer s H E vs hr hgd).nox, let ⟨_, h⟩ := spX_start (g := fun _ => g) hio hN (fun os Q0 X0 hn h => hG os Q0 hn h) hs; liftS_noX h⟩
end
end Dt

namespace Dt
open PySem PySem.Spec PyProof.Rows L2

/-! ### calls of defs -/
/-- an argument: frozen data, or what stands in a slot -/
def argO (ρ : Env) : Res → Option OV
  | .cl d => some (.fr d)
  | .sl i [] => (ρ[i]?).join
  | _ => none
def argOs (ρ : Env) : List Res → Option (List OV)
  | [] => some []
  | r :: rs => (argO ρ r).bind fun o => (argOs ρ rs).bind fun os => some (o :: os)
def isSl : Res → Nat → Bool
  | .sl i [], j => decide (i = j)
  | _, _ => false
/-- no slot twice -/
def slNd : List Res → Bool
  | [] => true
  | .sl i [] :: rs => rs.all (fun r => !isSl r i) && slNd rs
  | _ :: rs => slNd rs
def noSl (rs : List Res) : Bool := rs.all fun r => match r with
  | .cl _ => true
  | _ => false
def back : Env → List Res → Env → Env
  | ρ, .sl i [] :: rs, o :: ρf => (back ρ rs ρf).set i o
  | ρ, _ :: rs, _ :: ρf => back ρ rs ρf
  | ρ, _, _ => ρ
def backF : Fps → List Res → Fps → Fps
  | fps, .sl i [] :: rs, fF => setF (backF fps rs fun j => fF (j + 1)) i (fF 0)
  | fps, _ :: rs, fF => backF fps rs fun j => fF (j + 1)
  | fps, [], _ => fps
theorem isSl_iff {r : Res} {i : Nat} : isSl r i = true ↔ r = .sl i [] := by
  cases r with
  | cl d => exact ⟨fun h => (by cases h), fun h => (by cases h)⟩
  | fr o => exact ⟨fun h => (by cases h), fun h => (by cases h)⟩
  | sl j p =>
    cases p with
    | nil => exact ⟨fun h => by rw [of_decide_eq_true (show decide (j = i) = true from h)], fun h => by cases h; exact decide_eq_true rfl⟩
    | cons a b => exact ⟨fun h => (by cases h), fun h => (by cases h)⟩
theorem back_len : ∀ {ρ : Env} {rs : List Res} {ρf : Env}, (back ρ rs ρf).length = ρ.length
  | ρ, [], _ => by simp only [back]
  | ρ, .sl i [] :: rs, o :: ρf => by simp only [back]; rw [List.length_set, back_len]
  | ρ, .sl i (_ :: _) :: rs, o :: ρf => by simp only [back]; exact back_len
  | ρ, .cl _ :: rs, o :: ρf => by simp only [back]; exact back_len
  | ρ, .fr _ :: rs, o :: ρf => by simp only [back]; exact back_len
  | ρ, .sl i [] :: rs, [] => by simp only [back]
  | ρ, .sl i (_ :: _) :: rs, [] => by simp only [back]
  | ρ, .cl _ :: rs, [] => by simp only [back]
  | ρ, .fr _ :: rs, [] => by simp only [back]
/-- slot i behind the call: an argument's, or as it was -/
theorem back_get {i : Nat} : ∀ {ρ : Env} {rs : List Res} {ρf : Env} {fps fF : Fps}, rs.length = ρf.length → i < ρ.length →
    (∃ j, rs[j]? = some (.sl i []) ∧ (back ρ rs ρf)[i]? = ρf[j]? ∧ backF fps rs fF i = fF j) ∨ ((∀ j : Nat, rs[j]? ≠ some (.sl i [])) ∧ (back ρ rs ρf)[i]? = ρ[i]? ∧ backF fps rs fF i = fps i)
  | ρ, [], [], fps, fF, _, _ => .inr ⟨fun j e => by simp at e, by simp only [back], by simp only [backF]⟩
  | ρ, r :: rs, o :: ρf, fps, fF, hl, hi => by
    have ih := back_get (ρ := ρ) (rs := rs) (ρf := ρf) (fps := fps) (fF := fun j => fF (j + 1)) (by simpa using hl) hi
    have skip : back ρ (r :: rs) (o :: ρf) = back ρ rs ρf → backF fps (r :: rs) fF = backF fps rs (fun j => fF (j + 1)) → r ≠ .sl i [] →
        ((∃ j, (r :: rs)[j]? = some (.sl i []) ∧ (back ρ (r :: rs) (o :: ρf))[i]? = (o :: ρf)[j]? ∧ backF fps (r :: rs) fF i = fF j) ∨ ((∀ j : Nat, (r :: rs)[j]? ≠ some (.sl i [])) ∧ (back ρ (r :: rs) (o :: ρf))[i]? = ρ[i]? ∧ backF fps (r :: rs) fF i = fps i)) := fun e1 e2 ne => by
      rw [e1, e2]
      rcases ih with ⟨j, h1, h2, h3⟩ | ⟨h1, h2, h3⟩
      · exact .inl ⟨j + 1, by rw [List.getElem?_cons_succ]; exact h1, by rw [List.getElem?_cons_succ]; exact h2, h3⟩
      · refine .inr ⟨fun j e => ?_, h2, h3⟩
        cases j with
        | zero => rw [List.getElem?_cons_zero] at e; exact ne (Option.some.inj e)
        | succ j => rw [List.getElem?_cons_succ] at e; exact h1 j e
    cases r with
    | cl d => exact skip (by simp only [back]) (by simp only [backF]) (fun e => by cases e)
    | fr d => exact skip (by simp only [back]) (by simp only [backF]) (fun e => by cases e)
    | sl k p =>
      cases p with
      | cons a b => exact skip (by simp only [back]) (by simp only [backF]) (fun e => by cases e)
      | nil =>
        have e1 : back ρ (.sl k [] :: rs) (o :: ρf) = (back ρ rs ρf).set k o := by simp only [back]
        have e2 : backF fps (.sl k [] :: rs) fF = setF (backF fps rs fun j => fF (j + 1)) k (fF 0) := by simp only [backF]
        by_cases hk : k = i
        · subst hk
          refine .inl ⟨0, rfl, ?_, ?_⟩
          · rw [e1, List.getElem?_set_self (by rw [back_len]; exact hi)]; rfl
          · rw [e2]; unfold setF; rw [if_pos rfl]
        · have f1 : (back ρ (.sl k [] :: rs) (o :: ρf))[i]? = (back ρ rs ρf)[i]? := by rw [e1, List.getElem?_set_ne hk]
          have f2 : backF fps (.sl k [] :: rs) fF i = backF fps rs (fun j => fF (j + 1)) i := by rw [e2]; unfold setF; rw [if_neg (fun z => hk z.symm)]
          rw [f1, f2]
          rcases ih with ⟨j, h1, h2, h3⟩ | ⟨h1, h2, h3⟩
          · exact .inl ⟨j + 1, by rw [List.getElem?_cons_succ]; exact h1, by rw [List.getElem?_cons_succ]; exact h2, h3⟩
          · refine .inr ⟨fun j e => ?_, h2, h3⟩
            cases j with
            | zero => rw [List.getElem?_cons_zero] at e; cases e; exact hk rfl
            | succ j => rw [List.getElem?_cons_succ] at e; exact h1 j e
  | ρ, [], _ :: _, _, _, hl, _ => by simp at hl
  | ρ, _ :: _, [], _, _, hl, _ => by simp at hl
theorem back_no {ρ : Env} {fps : Fps} : ∀ {rs : List Res} {ρf : Env} {fF : Fps}, noSl rs = true → back ρ rs ρf = ρ ∧ backF fps rs fF = fps
  | [], _, _, _ => ⟨by simp only [back], by simp only [backF]⟩
  | .cl d :: rs, [], fF, h => ⟨by simp only [back], by
    have := back_no (ρ := ρ) (fps := fps) (rs := rs) (ρf := []) (fF := fun j => fF (j + 1)) (by simpa [noSl] using h)
    simp only [backF]; exact this.2⟩
  | .cl d :: rs, o :: ρf, fF, h => by
    have := back_no (ρ := ρ) (fps := fps) (rs := rs) (ρf := ρf) (fF := fun j => fF (j + 1)) (by simpa [noSl] using h)
    exact ⟨by simp only [back]; exact this.1, by simp only [backF]; exact this.2⟩
  | .fr d :: rs, _, _, h => by simp [noSl] at h
  | .sl i p :: rs, _, _, h => by simp [noSl] at h
theorem argOs_get {ρ : Env} : ∀ {rs : List Res} {os : List OV} {j : Nat} {o : OV}, argOs ρ rs = some os → os[j]? = some o → ∃ r, rs[j]? = some r ∧ argO ρ r = some o
  | [], os, j, o, e, h => by
    have e : some [] = some os := e
    cases e
    simp at h
  | r :: rs, os, j, o, e, h => by
    have e : ((argO ρ r).bind fun o => (argOs ρ rs).bind fun os => some (o :: os)) = some os := e
    cases e1 : argO ρ r with
    | none => rw [e1] at e; cases e
    | some o1 =>
      rw [e1] at e
      cases e2 : argOs ρ rs with
      | none => rw [e2] at e; cases e
      | some os1 =>
        rw [e2] at e
        cases e
        cases j with
        | zero => rw [List.getElem?_cons_zero] at h ⊢; cases h; exact ⟨r, rfl, e1⟩
        | succ j => rw [List.getElem?_cons_succ] at h ⊢; exact argOs_get e2 h
theorem argOs_len {ρ : Env} : ∀ {rs : List Res} {os : List OV}, argOs ρ rs = some os → os.length = rs.length
  | [], os, e => by
    have e : some [] = some os := e
    cases e
    rfl
  | r :: rs, os, e => by
    have e : ((argO ρ r).bind fun o => (argOs ρ rs).bind fun os => some (o :: os)) = some os := e
    cases e1 : argO ρ r with
    | none => rw [e1] at e; cases e
    | some o1 =>
      rw [e1] at e
      cases e2 : argOs ρ rs with
      | none => rw [e2] at e; cases e
      | some os1 => rw [e2] at e; cases e; rw [List.length_cons, List.length_cons, argOs_len e2]
theorem slNd_get {i : Nat} : ∀ {rs : List Res} {j j' : Nat}, slNd rs = true → rs[j]? = some (.sl i []) → rs[j']? = some (.sl i []) → j = j'
  | [], _, _, _, e, _ => by simp at e
  | r :: rs, j, j', h, e, e' => by
    have tl : slNd rs = true := by
      cases r with
      | cl _ => exact h
      | fr _ => exact h
      | sl k p =>
        cases p with
        | nil => exact (Bool.and_eq_true_iff.mp h).2
        | cons _ _ => exact h
    have hd : ∀ {m : Nat}, r = .sl i [] → rs[m]? ≠ some (.sl i []) := fun {m} er em => by
      subst er
      have h1 := (Bool.and_eq_true_iff.mp h).1
      have h2 := List.all_eq_true.mp h1 _ (List.mem_of_getElem? em)
      rw [isSl_iff.mpr rfl] at h2
      cases h2
    cases j with
    | zero =>
      cases j' with
      | zero => rfl
      | succ m =>
        rw [List.getElem?_cons_zero] at e
        rw [List.getElem?_cons_succ] at e'
        exact absurd e' (hd (Option.some.inj e))
    | succ m =>
      cases j' with
      | zero =>
        rw [List.getElem?_cons_zero] at e'
        rw [List.getElem?_cons_succ] at e
        exact absurd e (hd (Option.some.inj e'))
      | succ m' =>
        rw [List.getElem?_cons_succ] at e e'
        rw [slNd_get tl e e']
/-- the values stand for the results, one by one -/
def Each (K : Fg) (F H : Hp) (σ : St) (ow : AS) (vs : List V) (rs : List Res) : Prop := vs.length = rs.length ∧ ∀ (j : Nat) (v : V) (r : Res), vs[j]? = some v → rs[j]? = some r → ∃ f, RepR K F H σ ow v r f
theorem RepRs.each {K : Fg} {F H : Hp} {σ : St} {ow : AS} : ∀ {vs : List V} {rs : List Res} {f : AS}, RepRs K F H σ ow vs rs f → Each K F H σ ow vs rs
  | [], [], _, _ => ⟨rfl, fun j v r e _ => by simp at e⟩
  | v :: vs, r :: rs, f, ⟨f1, f2, h1, h2, _, e⟩ => by
    obtain ⟨l, g⟩ := RepRs.each h2
    refine ⟨by rw [List.length_cons, List.length_cons, l], fun j v' r' e1 e2 => ?_⟩
    cases j with
    | zero => rw [List.getElem?_cons_zero] at e1 e2; cases e1; cases e2; exact ⟨f1, h1⟩
    | succ j => rw [List.getElem?_cons_succ] at e1 e2; exact g j v' r' e1 e2
  | [], _ :: _, _, h => h.elim
  | _ :: _, [], _, h => h.elim
theorem call_core {K : Fg} {pv : Pins} {F H : Hp} {σ : St} {ρ : Env} {fps : Fps} {vs : List V} {rs : List Res} {os : List OV} {G : SpecX} {n : Nat} {Q : VK} {E : XK} {Q1 : Res → Env → Prop} {X1 : Exc → Env → Prop} (S : Sta K pv F H σ ρ fps) (R : Each K F H σ (own ρ fps) vs rs)
    (e : argOs ρ rs = some os) (nd : slNd rs = true) (hn : rs.length = n) (g : G os Q1 X1)
    (k : ∀ r ρf v H' F' fps' f, Q1 r ρf → Sta K pv F' H' σ (back ρ rs ρf) fps' → Step F H (own ρ fps) F' H' (orA (own (back ρ rs ρf) fps') f) → RepR K F' H' σ (own (back ρ rs ρf) fps') v r f →
      (noSl rs = true → LamX.ExtN H H' ∧ back ρ rs ρf = ρ ∧ fps' = fps) → Q v H')
    (kx : ∀ x ρf d H' F' fps', X1 x ρf → Sta K pv F' H' σ (back ρ rs ρf) fps' → Step F H (own ρ fps) F' H' (own (back ρ rs ρf) fps') → RepX K F' x d → E (.ref (pv.T.cx x.cls)) d H') : spX K pv.T n G vs H Q E := by
  have lo := argOs_len e
  have lv := R.1
  -- the slots' footprints, argument by argument
  have at_ : ∀ (j : Nat) (i : Nat), rs[j]? = some (.sl i []) → ∃ o u, os[j]? = some o ∧ ρ[i]? = some (some o) ∧ vs[j]? = some u ∧ σ[i]? = some (some u) := fun j i h => by
    have hj := (List.getElem?_eq_some_iff.mp h).1
    obtain ⟨r, h1, h2⟩ := argOs_get e (List.getElem?_eq_getElem (l := os) (i := j) (by omega))
    rw [h] at h1
    cases h1
    have h2 : (ρ[i]?).join = some os[j] := h2
    have hv : vs[j]? = some vs[j] := List.getElem?_eq_getElem (by omega)
    obtain ⟨f, hr⟩ := R.2 j _ _ hv h
    obtain ⟨⟨u, hu, hw⟩, _⟩ := hr
    have hw : vs[j] = u := hw
    refine ⟨os[j], u, List.getElem?_eq_getElem (by omega), ?_, by rw [hv, hw], hu⟩
    cases hq : ρ[i]? with
    | none => rw [hq] at h2; cases h2
    | some x => rw [hq] at h2; have h2 : x = some os[j] := h2; rw [h2]
  let fC : Fps := fun j a => ∃ i, rs[j]? = some (Res.sl i []) ∧ fps i a
  have fC_sl : ∀ {j i : Nat}, rs[j]? = some (.sl i []) → fC j = fps i := fun {j i} h => by
    funext a
    refine propext ⟨fun ⟨i', h1, h2⟩ => ?_, fun z => ⟨i, h, z⟩⟩
    rw [h] at h1
    cases h1
    exact h2
  have fC_in : ∀ {j : Nat} {a : Addr}, fC j a → ∃ i, rs[j]? = some (Res.sl i []) ∧ fps i a := fun {j a} h => h
  have SC : Sta K (Pins.no pv.T) F H (vs.map some) (os.map some) fC := by
    refine ⟨S.le, by rw [List.length_map, List.length_map]; omega, fun j o h => ?_, fun j j' o o' ne h h' => ?_, fun i v z => by
      have z : ([] : List (Option V))[i]? = some (some v) := z
      simp at z, S.nt, S.tab⟩
    · rw [List.getElem?_map] at h
      cases ho : os[j]? with
      | none => rw [ho] at h; cases h
      | some o1 =>
        rw [ho] at h
        have h : o1 = o := by cases h; rfl
        subst h
        obtain ⟨r, h1, h2⟩ := argOs_get e ho
        have hj := (List.getElem?_eq_some_iff.mp h1).1
        have hv : vs[j]? = some vs[j] := List.getElem?_eq_getElem (by omega)
        refine ⟨vs[j], by rw [List.getElem?_map, hv]; rfl, ?_⟩
        cases r with
        | cl d =>
          cases h2
          obtain ⟨f, hr⟩ := R.2 j _ _ hv h1
          exact .fr hr.1 fun a z => by
            obtain ⟨i, hq, _⟩ := fC_in z
            rw [h1] at hq; cases hq
        | fr o => cases h2
        | sl i p =>
          cases p with
          | cons _ _ => cases h2
          | nil =>
            obtain ⟨o', u, q1, q2, q3, q4⟩ := at_ j i h1
            rw [ho] at q1; cases q1
            obtain ⟨u', hu', ro⟩ := S.rep i _ q2
            rw [q4] at hu'; cases hu'
            rw [hv] at q3; cases q3
            rw [fC_sl h1]
            exact ro
    · intro a z z'
      obtain ⟨i, hq, p⟩ := fC_in z
      obtain ⟨i', hq', p'⟩ := fC_in z'
      obtain ⟨o1, _, _, r1, _⟩ := at_ j i hq
      obtain ⟨o2, _, _, r2, _⟩ := at_ j' i' hq'
      by_cases hi : i = i'
      · subst hi; exact ne (slNd_get nd hq hq')
      · exact S.dis i i' _ _ hi r1 r2 a p p'
  have owC : ∀ {a : Addr}, own (os.map some) fC a → ∃ (j i : Nat) (o : OV), rs[j]? = some (Res.sl i []) ∧ ρ[i]? = some (some o) ∧ fps i a := fun {a} ⟨j, o, h, p⟩ => by
    obtain ⟨i, hq, p⟩ := fC_in p
    obtain ⟨o1, _, _, r1, _⟩ := at_ j i hq
    exact ⟨j, i, o1, hq, r1, p⟩
  have core : ∀ {ρf : Env} {H' F' : Hp} {fF : Fps} {f : AS}, Sta K (Pins.no pv.T) F' H' (vs.map some) ρf fF → Step F H (own (os.map some) fC) F' H' (orA (own ρf fF) f) →
      Sta K pv F' H' σ (back ρ rs ρf) (backF fps rs fF) ∧ Step F H (own ρ fps) F' H' (orA (own (back ρ rs ρf) (backF fps rs fF)) f) ∧ (∀ a, f a → ¬ own ρf fF a → ¬ own (back ρ rs ρf) (backF fps rs fF) a) := by
    intro ρf H' F' fF f S' s
    have lf : rs.length = ρf.length := by
      have := S'.len
      rw [List.length_map] at this
      omega
    -- a slot that is no argument stays
    have stay : ∀ {i : Nat} {o : OV} {a : Addr}, (∀ j : Nat, rs[j]? ≠ some (.sl i [])) → ρ[i]? = some (some o) → fps i a → H' a = H a ∧ F' a = none ∧ ¬ orA (own ρf fF) f a := fun {i o a} hna hr p => by
      obtain ⟨h1, h2, _⟩ := S.ow_out ⟨i, o, hr, p⟩
      obtain ⟨k1, k2, k3⟩ := s.fr a h2 h1 fun z => by
        obtain ⟨j, i', o', q1, q2, q3⟩ := owC z
        by_cases hi : i = i'
        · subst hi; exact hna j q1
        · exact S.dis i i' _ _ hi hr q2 a p q3
      exact ⟨k1.eq (S.ow_noT ⟨i, o, hr, p⟩), k2, k3⟩
    have new : ∀ {i : Nat} {o : OV}, (back ρ rs ρf)[i]? = some (some o) → (∃ j : Nat, rs[j]? = some (Res.sl i []) ∧ ρf[j]? = some (some o) ∧ backF fps rs fF i = fF j) ∨ ((∀ j : Nat, rs[j]? ≠ some (.sl i [])) ∧ ρ[i]? = some (some o) ∧ backF fps rs fF i = fps i) := fun {i o} h => by
      have hi : i < ρ.length := by
        have := (List.getElem?_eq_some_iff.mp h).1
        rwa [back_len] at this
      rcases back_get (fps := fps) (fF := fF) lf hi with ⟨j, h1, h2, h3⟩ | ⟨h1, h2, h3⟩
      · exact .inl ⟨j, h1, by rw [← h2]; exact h, h3⟩
      · exact .inr ⟨h1, by rw [← h2]; exact h, h3⟩
    have S2 : Sta K pv F' H' σ (back ρ rs ρf) (backF fps rs fF) := by
      refine ⟨S'.le, by rw [back_len]; exact S.len, fun i o h => ?_, fun i i' o o' ne h h' => ?_, S.pin, S'.nt, S'.tab⟩
      · rcases new h with ⟨j, h1, h2, h3⟩ | ⟨h1, h2, h3⟩
        · obtain ⟨v1, w1, w2⟩ := S'.rep j o h2
          obtain ⟨o1, u, _, _, q3, q4⟩ := at_ j i h1
          rw [List.getElem?_map, q3] at w1
          have w1 : u = v1 := by cases w1; rfl
          subst w1
          exact ⟨u, q4, by rw [h3]; exact w2⟩
        · obtain ⟨v1, w1, w2⟩ := S.rep i o h2
          refine ⟨v1, w1, ?_⟩
          rw [h3]
          exact w2.mono s.le fun a p => ⟨(stay h1 h2 p).1, (stay h1 h2 p).2.1⟩
      · rcases new h with ⟨j, h1, h2, h3⟩ | ⟨h1, h2, h3⟩
        · rcases new h' with ⟨j', g1, g2, g3⟩ | ⟨g1, g2, g3⟩
          · rw [h3, g3]
            have nj : j ≠ j' := fun z => by subst z; rw [h1] at g1; cases g1; exact ne rfl
            exact S'.dis j j' o o' nj h2 g2
          · rw [h3, g3]
            exact fun a p p' => (stay g1 g2 p').2.2 (.inl ⟨j, o, h2, p⟩)
        · rcases new h' with ⟨j', g1, g2, g3⟩ | ⟨g1, g2, g3⟩
          · rw [h3, g3]
            exact fun a p p' => (stay h1 h2 p).2.2 (.inl ⟨j', o', g2, p'⟩)
          · rw [h3, g3]
            exact S.dis i i' o o' ne h2 g2
    have ow2 : ∀ {a : Addr}, own (back ρ rs ρf) (backF fps rs fF) a → own ρf fF a ∨ ∃ (i : Nat) (o : OV), (∀ j : Nat, rs[j]? ≠ some (Res.sl i [])) ∧ ρ[i]? = some (some o) ∧ fps i a := fun {a} ⟨i, o, h, p⟩ => by
      rcases new h with ⟨j, h1, h2, h3⟩ | ⟨h1, h2, h3⟩
      · rw [h3] at p; exact .inl ⟨j, o, h2, p⟩
      · rw [h3] at p; exact .inr ⟨i, o, h1, h2, p⟩
    refine ⟨S2, ⟨s.le, fun a h1 h2 h3 => ?_⟩, fun a p no z => ?_⟩
    · obtain ⟨r1, r2, r3⟩ := s.fr a h1 h2 fun z => h3 (by
        obtain ⟨j, i, o, _, q2, q3⟩ := owC z
        exact ⟨i, o, q2, q3⟩)
      refine ⟨r1, r2, ?_⟩
      rintro (z | z)
      · rcases ow2 z with z | ⟨i, o, _, q2, q3⟩
        · exact r3 (.inl z)
        · exact h3 ⟨i, o, q2, q3⟩
      · exact r3 (.inr z)
    · rcases ow2 z with z | ⟨i, o', q1, q2, q3⟩
      · exact no z
      · exact (stay q1 q2 q3).2.2 (.inr p)
  refine ⟨os, F, fC, Q1, X1, by omega, SC, g, fun r ρf v H' F' fF f q1 S' s er => ?_, fun x ρf d H' F' fF q1 S' s er => ?_⟩
  · obtain ⟨S2, s2, nf⟩ := core S' s
    refine k r ρf v H' F' (backF fps rs fF) f q1 S2 s2 ?_ fun z => ?_
    · cases r with
      | cl d => exact er
      | fr o => exact ⟨er.1, fun a p z => nf a p (fun w => er.2 a p w) z⟩
      | sl i p =>
        obtain ⟨⟨u, hu, _⟩, _⟩ := er
        simp at hu
    · obtain ⟨b1, b2⟩ := back_no (ρ := ρ) (fps := fps) (ρf := ρf) (fF := fF) z
      refine ⟨fun a o h nt => ?_, b1, b2⟩
      cases hF : F a with
      | some o' =>
        have := S.le _ _ hF
        rw [h] at this
        cases this
        exact S'.le _ _ (s.le _ _ hF)
      | none =>
        rw [← h]
        refine (s.fr a (by rw [h]; simp) hF fun z2 => ?_).1.eq (by rw [h]; exact fun ps e => nt ps (Option.some.inj e))
        obtain ⟨j, i, o', q1, _⟩ := owC z2
        have := List.all_eq_true.mp z _ (List.mem_of_getElem? q1)
        cases this
  · obtain ⟨S2, s2, _⟩ := core S' (s.less fun c z => z.elim id fun z => z.elim : Step F H (own (os.map some) fC) F' H' (orA (own ρf fF) noA))
    exact kx x ρf d H' F' (backF fps rs fF) q1 S2 (s2.less fun _ => .inl) er
def gCall (G : Spec) (n : Nat) (ga : DA) : DE := fun ρ Q => ga ρ fun q rs ρ1 => ok (argOs ρ1 rs) fun os => (slNd rs = true ∧ rs.length = n) ∧ G os fun r ρf => Q (q && noSl rs) r (back ρ1 rs ρf)
section
variable {X : Cx} {pv : Pins} {pos p : Pos} {k : Nat} {f : Addr} {fd : FuncData} {ps : List Str} {x : Str} {e : Expr} {es : List Expr} {ga gk : DA} {G : Spec} {n : Nat}
theorem dv_fn (Fn : FnG X.prog X.w X.K X.mg X.base CX0 k f fd ps (spD X.K pv.T n G)) (hr : Room k X.A) (hgd : X.A.guards = some []) (hg : Gl X x) (hm : X.mg x = some (.ref f)) (hk : PySem.W.keepIn X.K (.ref f) = true) (hb : Binds X.K fd ps [])
    (ha : DAv X pv (e :: es) ga) (hdb : (x == ("__debug__" : Str)) = false := by decide) (he : starEach (e :: es) X.env = (false, eval e X.env) :: starEach es X.env := by rfl) (hpl : (backTo pos (starEach es X.env)).any (·.1) = false := by rfl) :
    DEv X pv (.Call (.Name x p) (e :: es) [] pos) (gCall G n ga) :=
  PE.to (pe_callG (E := E0) Fn hr hgd hg hm hk hb .nil pass0 ha hdb he hpl) fun σ H Q ⟨ρ, F, fps, Q0, S, ex, h, kk⟩ => by
    refine ⟨ρ, F, fps, _, S, ex, h, fun q rs ρ1 vs H1 F1 fps1 tf ⟨os, eo, ⟨nd, hn⟩, g⟩ S1 s1 er kq => ?_⟩
    show spD X.K pv.T n G (vs ++ []) H1 Q E0
    rw [List.append_nil]
    have tf0 : ∀ a, ¬ tf a := fun a z => by
      have : ∀ {vs : List V} {rs : List Res} {os : List OV} {tf : AS}, RepRs X.K F1 H1 σ (own ρ1 fps1) vs rs tf → argOs ρ1 rs = some os → ∀ a, ¬ tf a := by
        intro vs rs
        induction rs generalizing vs with
        | nil =>
          intro os tf h _ a z
          cases vs with
          | nil => exact h a z
          | cons _ _ => exact h.elim
        | cons r rs ih =>
          intro os tf h eo a z
          cases vs with
          | nil => exact h.elim
          | cons v vs =>
            obtain ⟨f1, f2, h1, h2, _, ef⟩ := h
            have eo : ((argO ρ1 r).bind fun o => (argOs ρ1 rs).bind fun os => some (o :: os)) = some os := eo
            cases e1 : argO ρ1 r with
            | none => rw [e1] at eo; cases eo
            | some o1 =>
              rw [e1] at eo
              cases e2 : argOs ρ1 rs with
              | none => rw [e2] at eo; cases eo
              | some os1 =>
                rcases (ef a).mp z with z | z
                · cases r with
                  | cl _ => exact h1.2 a z
                  | sl _ _ => exact h1.2 a z
                  | fr _ => cases e1
                · exact ih h2 e2 a z
      exact this er eo a z
    refine call_core (G := fun os Q _ => G os Q) (X1 := fun _ _ => False) S1 er.each eo nd hn g (fun r ρf v H2 F2 fps2 f q1 S2 s2 e2 k2 => ?_) fun _ _ _ _ _ _ z => z.elim
    have s12 : Step F H (own ρ fps) F1 H1 (own ρ1 fps1) := s1.no
    exact kk _ r _ v H2 F2 fps2 f q1 S2 (s12.trans s2) e2 fun z => by
      obtain ⟨z1, z2⟩ := Bool.and_eq_true_iff.mp z
      obtain ⟨a1, a2, a3⟩ := kq z1
      obtain ⟨b1, b2, b3⟩ := k2 z2
      exact ⟨a1.trans b1, b2.trans a2, b3.trans a3⟩
end
end Dt

namespace Dt
open PySem PySem.Spec PyProof.Rows L2

/-! ### tuple * int, any int -/
theorem tup_one (l : Addr) (its : Array Value) (n : Nat) (dd : Option Addr) (sl : Array (Option Value)) (x : Int) (u : Tok) (c0 : (decide (x < -(2 ^ 63)) || decide (x ≥ 2 ^ 63)) = false) (c1 : (its.isEmpty || x == 1) = true) :
    Meets (Builtin.«tuple.__mul__» ⟨[.ref l, .int x u], []⟩) (fun _ R s => s.heap.get? l = some { cls := .type "tuple", dict := dd, data := .seq its n, slots := sl } ∧ R (.ok (.ret (.ref l))) s) :=
  .of_wp fun prog w A R s h => by
    obtain ⟨hp, g, d, tk, os⟩ := s
    obtain ⟨hl, h⟩ := h
    have f1 := AutoSeq1.idx_int
    wp_walk using wpAny_loadPart' hl
    repeat (first
      | (refine wpAny_ite_false (decide_eq_false (by rw [c0]; exact Bool.false_ne_true)) ?_; wp_walk using wpAny_loadPart' hl)
      | (refine wpAny_ite_true (decide_eq_true (by rw [c1])) ?_; wp_walk using wpAny_loadPart' hl))
    exact ⟨_, rfl, h⟩
theorem tup_none (l : Addr) (its : Array Value) (n : Nat) (dd : Option Addr) (sl : Array (Option Value)) (x : Int) (u : Tok) (c0 : (decide (x < -(2 ^ 63)) || decide (x ≥ 2 ^ 63)) = false) (c1 : (its.isEmpty || x == 1) = false) (c2 : (decide (x ≤ 0) || its.isEmpty) = true) :
    Meets (Builtin.«tuple.__mul__» ⟨[.ref l, .int x u], []⟩) (fun _ R s => s.heap.get? l = some { cls := .type "tuple", dict := dd, data := .seq its n, slots := sl } ∧
      R (.ok (.ret (Value.ref s.heap.objs.size))) { s with heap := s.heap.push { cls := Value.type "tuple", data := Data.seq #[] }, toks := s.toks }) :=
  .of_wp fun prog w A R s h => by
    obtain ⟨hp, g, d, tk, os⟩ := s
    obtain ⟨hl, h⟩ := h
    have f1 := AutoSeq1.idx_int
    wp_walk using wpAny_loadPart' hl
    repeat (first
      | (refine wpAny_ite_false (decide_eq_false (by rw [c0]; exact Bool.false_ne_true)) ?_; wp_walk using wpAny_loadPart' hl)
      | (refine wpAny_ite_false (decide_eq_false (by rw [c1]; exact Bool.false_ne_true)) ?_; wp_walk using wpAny_loadPart' hl)
      | (refine wpAny_ite_true (decide_eq_true (by rw [c2])) ?_; wp_walk using wpAny_loadPart' hl))
    exact ⟨_, rfl, h⟩

def rRepN (K : Fg) : R2 := fun x y H Q => ∃ l k xs, x = .ref l ∧ y = .int k ∧ SqT K H l xs ∧ -1000 ≤ k ∧ (k ≤ 1000 ∨ (xs.length ≤ 10 ∧ k ≤ 100000)) ∧ xs.length ≤ 1000 ∧ (xs = [] ∨ k = 1 → Q (.ref l) H) ∧
  (xs ≠ [] → k ≠ 1 → ∀ (p : Addr) (o : Obj), o.dict = none → H p = none → Q (.ref p) (upd H p (.frz o (.tup (List.replicate k.toNat xs).flatten))))
/-- x * k, k > 1: a new tuple -/
theorem op_repP {X : Cx} {pins : List (Addr × Obj)} {s : Shared} {σ : St} {H : Hp} {l : Addr} {k : Int} {t : Tok} {xs : List V} {Q : VK} (I : Inv X pins σ H s) (hT : SqT X.K H l xs) (hne : xs ≠ []) (h1 : 2 ≤ k) (h2 : k ≤ 1000 ∨ (xs.length ≤ 10 ∧ k ≤ 100000)) (hz : xs.length ≤ 1000)
    (q : ∀ (p : Addr) (o : Obj), o.dict = none → H p = none → Q (.ref p) (upd H p (.frz o (.tup (List.replicate k.toNat xs).flatten)))) : wpAny (model X.prog X.w) X.A (binaryOp .Mult (.ref l) (.int k t)) (EP X pins σ Q) X.xe s := by
  obtain ⟨its, r, ⟨⟨cls, dd, data, sl⟩, ho, hc, n, hd⟩, hs⟩ := I.tuple hT
  simp only at hc hd
  subst hc hd
  have hle : its.length = xs.length := r.length.symm
  have hn : its ≠ [] := fun e => hne (by
    rw [e] at hle
    exact List.eq_nil_of_length_eq_zero hle.symm)
  have hi : its.toArray.isEmpty = false := by
    cases its with
    | nil => exact absurd rfl hn
    | cons a b => rfl
  have hsz0 : its.toArray.size = xs.length := by rw [List.size_toArray, hle]
  have hm : ((its.toArray.size : Nat) : Int) * k ≤ 1000000 := by
    rw [hsz0]
    rcases h2 with h2 | ⟨h3, h2⟩
    · have a1 : ((xs.length : Nat) : Int) * k ≤ 1000 * k := Int.mul_le_mul_of_nonneg_right (by omega) (by omega)
      omega
    · have a1 : ((xs.length : Nat) : Int) * k ≤ 10 * k := Int.mul_le_mul_of_nonneg_right (by omega) (by omega)
      omega
  have flen : (List.replicate k.toNat its).flatten.length ≤ sizeLine := by
    rw [PyProof.Rows.lm_len_rep_flat, hle, sizeLine_eq]
    rcases h2 with h2 | ⟨h3, h2⟩
    · have a1 : k.toNat * xs.length ≤ 1000 * 1000 := Nat.mul_le_mul (by omega) hz
      omega
    · have a1 : k.toNat * xs.length ≤ 100000 * 10 := Nat.mul_le_mul (by omega) h3
      omega
  have c0 : (decide (k < -(2 ^ 63)) || decide (k ≥ 2 ^ 63)) = false := by
    rw [decide_eq_false (by omega), decide_eq_false (by omega)] <;> rfl
  have c1 : (its.toArray.isEmpty || k == 1) = false := by
    rw [hi, Bool.false_or]
    exact beq_eq_false_iff_ne.mpr (by omega)
  have c2 : (decide (k ≤ 0) || its.toArray.isEmpty) = false := by
    rw [hi, Bool.or_false]
    exact decide_eq_false (by omega)
  have c4 : Builtin.Tuple.tupleTooMany (((its.toArray.size : Nat) : Int) * k) = false := by
    unfold Builtin.Tuple.tupleTooMany
    rw [sizeLine_eq]
    exact decide_eq_false (by omega)
  refine wpAny_binaryOp_repeat_ref (T := "tuple") (U := "int") (by decide) ⟨_, ho, rfl⟩ (fun s' => typeIs_int s' k t) noFill_tuple_mul F.fills_int_mul F.slot_int_rmul repeat_tuple F.slot_int_index.lookup
    (call_meets F.slot_int_rmul (typeIs_int s k t) F.entry_int_rmul (F.args_int_rmul_2 _ _) (int_rmul_tuple k t l its.toArray n dd sl)
      ⟨ho, rfl, ⟨_, ho, rfl⟩, call_meets F.slot_tuple_mul ⟨_, ho, rfl⟩ F.entry_tuple_mul (F.args_tuple_mul_2 _ _) (tuple_mulW l its.toArray n dd sl k t c0 c1 c2 (by omega) c4 (by rw [size_rep, List.size_toArray]; exact flen)) ⟨ho, ?_⟩⟩)
  rw [size_rep]
  refine ⟨.ref s.heap.objs.size, _, I.laid (t' := s.toks) (o := .frz { cls := .type "tuple", data := .seq (List.replicate k.toNat its).flatten.toArray } (.tup (List.replicate k.toNat xs).flatten)) (fun b ob q => Heap.get?_push_of_some _ q) (Nat.le_refl _) ?_, rfl, q _ _ rfl (I.hok.fresh (Nat.le_refl _))⟩
  have rr : Vals (List.replicate k.toNat xs).flatten (List.replicate k.toNat its).flatten := by
    generalize k.toNat = m
    clear q c0 c1 c2 c4 flen hm
    induction m with
    | zero => exact .nil
    | succ m ih =>
      rw [List.replicate_succ, List.replicate_succ, List.flatten_cons, List.flatten_cons]
      exact r.append ih
  exact ⟨Heap.get?_push_size _ rfl, by rw [rr.length]; exact flen, _, rr, IsTup.new _ _⟩
theorem op_repN {X : Cx} : OpR X (binaryOp .Mult) (rRepN X.K) := by
  intro pins s σ H x y v u Q I rx ry h
  obtain ⟨l, k, xs, rfl, rfl, hT, h1, h2, hz, q1, q2⟩ := h
  by_cases hbig : xs ≠ [] ∧ 2 ≤ k
  · cases rx
    obtain ⟨t, rfl⟩ := ry
    exact op_repP I hT hbig.1 hbig.2 h2 hz (q2 hbig.1 (by omega))
  cases rx
  obtain ⟨t, rfl⟩ := ry
  obtain ⟨its, r, ⟨⟨cls, dd, data, sl⟩, ho, hc, n, hd⟩, hs⟩ := I.tuple hT
  simp only at hc hd
  subst hc hd
  have hle : its.length = xs.length := r.length.symm
  have b0 : (decide (k < -(2 ^ 63)) || decide (k ≥ 2 ^ 63)) = false := by
    rw [decide_eq_false (by omega), decide_eq_false (by omega)] <;> rfl
  by_cases hsame : xs = [] ∨ k = 1
  · have c1 : (its.toArray.isEmpty || k == 1) = true := by
      rcases hsame with e | e
      · have : its = [] := List.eq_nil_of_length_eq_zero (by rw [hle, e]; rfl)
        rw [this]
        rfl
      · rw [e]; simp
    exact wpAny_binaryOp_repeat_ref (T := "tuple") (U := "int") (by decide) ⟨_, ho, rfl⟩ (fun s' => typeIs_int s' k t) noFill_tuple_mul F.fills_int_mul F.slot_int_rmul repeat_tuple F.slot_int_index.lookup
      (call_meets F.slot_int_rmul (typeIs_int s k t) F.entry_int_rmul (F.args_int_rmul_2 _ _) (int_rmul_tuple k t l its.toArray n dd sl)
        ⟨ho, rfl, ⟨_, ho, rfl⟩, call_meets F.slot_tuple_mul ⟨_, ho, rfl⟩ F.entry_tuple_mul (F.args_tuple_mul_2 _ _) (tup_one l its.toArray n dd sl k t b0 c1) ⟨ho, .ref l, H, I, rfl, q1 hsame⟩⟩)
  · have hne : xs ≠ [] := fun e => hsame (.inl e)
    have hk1 : k ≠ 1 := fun e => hsame (.inr e)
    have hk0 : k ≤ 0 := by
      rcases Int.lt_or_le 1 k with h | h
      · exact absurd ⟨hne, by omega⟩ hbig
      · omega
    have hn : its ≠ [] := fun e => hne (List.eq_nil_of_length_eq_zero (by rw [← hle, e]; rfl))
    have hi : its.toArray.isEmpty = false := by
      cases its with
      | nil => exact absurd rfl hn
      | cons a b => rfl
    have c1 : (its.toArray.isEmpty || k == 1) = false := by rw [hi, Bool.false_or]; exact beq_eq_false_iff_ne.mpr hk1
    have c2 : (decide (k ≤ 0) || its.toArray.isEmpty) = true := by rw [decide_eq_true hk0]; rfl
    refine wpAny_binaryOp_repeat_ref (T := "tuple") (U := "int") (by decide) ⟨_, ho, rfl⟩ (fun s' => typeIs_int s' k t) noFill_tuple_mul F.fills_int_mul F.slot_int_rmul repeat_tuple F.slot_int_index.lookup
      (call_meets F.slot_int_rmul (typeIs_int s k t) F.entry_int_rmul (F.args_int_rmul_2 _ _) (int_rmul_tuple k t l its.toArray n dd sl)
        ⟨ho, rfl, ⟨_, ho, rfl⟩, call_meets F.slot_tuple_mul ⟨_, ho, rfl⟩ F.entry_tuple_mul (F.args_tuple_mul_2 _ _) (tup_none l its.toArray n dd sl k t b0 c1 c2) ⟨ho, ?_⟩⟩)
    have ef : (List.replicate k.toNat xs).flatten = [] := by
      have : k.toNat = 0 := by omega
      rw [this]; rfl
    refine ⟨.ref s.heap.objs.size, _, I.laid (t' := s.toks) (o := .frz { cls := .type "tuple", data := .seq #[] } (.tup (List.replicate k.toNat xs).flatten)) (fun b ob q => Heap.get?_push_of_some _ q) (Nat.le_refl _) ?_, rfl, q2 hne hk1 _ _ rfl (I.hok.fresh (Nat.le_refl _))⟩
    rw [ef]
    exact ⟨Heap.get?_push_size _ rfl, Nat.zero_le _, [], .nil, IsTup.new _ _⟩

/-! ### what the parts are -/
section
variable {K : Fg} {pv : Pins} {F H : Hp} {σ : St} {ρ : Env} {fps : Fps} {v : V} {r : Res} {f : AS}
theorem RepR.frD (S : Sta K pv F H σ ρ fps) (h : RepR K F H σ (own ρ fps) v r f) {d : PyData} (e : r.ov ρ = some (.fr d)) : Rep K F v d := by
  obtain ⟨fp, q, _⟩ := h.rep S e
  cases q with
  | fr q n => exact q
theorem Rep.intI {i : Int} (h : Rep K F v (.int i)) : v = .int i := by cases h; rfl
theorem Rep.strI {x : Str} (h : Rep K F v (.str x)) : v = .str x := by cases h; rfl
theorem Rep.boolI {b : Bool} (h : Rep K F v (.bool b)) : v = .bl b := by cases h; rfl
theorem Rep.tupI {ds : List PyData} (h : Rep K F v (.tuple ds)) : ∃ a vs, v = .ref a ∧ SqT K F a vs ∧ Reps K F vs ds := by cases h with | tup a b => exact ⟨_, _, rfl, a.t, b⟩
theorem Rep.tupP {ds : List PyData} (h : Rep K F v (.tuple ds)) : ∃ a vs, v = .ref a ∧ SqP K F a vs ∧ Reps K F vs ds := by cases h with | tup a b => exact ⟨_, _, rfl, a, b⟩
theorem Rep.lstI {ds : List PyData} (h : Rep K F v (.list ds)) : ∃ a vs, v = .ref a ∧ F a = some (.lst vs) ∧ Reps K F vs ds := by cases h with | lst a b => exact ⟨_, _, rfl, a, b⟩
/-- a list that is not the script -/
def OV.lsv : OV → Option (List PyData)
  | .fr (.list ds) => some ds
  | .lst ds => some ds
  | _ => none
theorem RepR.lsv (S : Sta K pv F H σ ρ fps) (h : RepR K F H σ (own ρ fps) v r f) {o : OV} (e : r.ov ρ = some o) {ds : List PyData} (e2 : o.lsv = some ds) : ∃ a vs, v = .ref a ∧ H a = some (.lst vs) ∧ Reps K F vs ds := by
  obtain ⟨fp, q, _⟩ := h.rep S e
  cases q with
  | fr q n =>
    cases q with
    | lst a b => cases e2; exact ⟨_, _, rfl, S.le _ _ a, b⟩
    | none => cases e2
    | bool _ => cases e2
    | int _ => cases e2
    | str _ => cases e2
    | tup _ _ => cases e2
    | dct _ _ => cases e2
  | lst a b c d => cases e2; exact ⟨_, _, rfl, a, c⟩
  | dct _ _ _ _ _ => cases e2
  | dcT _ _ _ _ _ => cases e2
  | ins _ _ _ _ _ => cases e2
  | scr _ _ _ => cases e2
  | scrK _ _ => cases e2
  | opq _ _ _ => cases e2
end
theorem Grow.frozenT {F H : Hp} {tf : AS} (le : Same F H) {p : Addr} {o : HO} (hp : H p = none) (ho : ∀ ps, o ≠ .tbl ps := by intro ps z; cases z) : Grow F H tf (upd F p o) (upd H p o) noA := by
  have nF : F p = none := by
    cases q : F p with
    | none => rfl
    | some u => have := le _ _ q; rw [hp] at this; cases this
  refine ⟨same_upd hp, same_upd nF, fun a u e => ?_, fun a h1 h2 h3 => ?_, fun n => noT_upd n ho⟩
  · by_cases h : a = p
    · subst h; rw [upd_same] at e ⊢; exact e
    · rw [upd_ne h] at e ⊢; exact le a u e
  · have ne : a ≠ p := fun z => by subst z; exact h1 hp
    rw [upd_ne ne]
    exact ⟨h2, fun z => z⟩
theorem Grow.ownedT {F H : Hp} {tf : AS} (le : Same F H) {p : Addr} {o : HO} (hp : H p = none) : Grow F H tf F (upd H p o) (fun a => a = p) :=
  ⟨same_upd hp, Same.refl F, fun a u e => (same_upd hp) a u (le a u e), fun a h1 h2 _ => ⟨h2, fun z => by subst z; exact h1 hp⟩, fun n => n⟩
section
variable {K : Fg} {pv : Pins} {F H : Hp} {σ : St} {ρ : Env} {fps : Fps}
/-- a new owned list of clean items -/
theorem RepR.newL (S : Sta K pv F H σ ρ fps) {p : Addr} {vs : List V} {ds : List PyData} (hp : H p = none) (r : Reps K F vs ds) : RepR K F (upd H p (.lst vs)) σ (own ρ fps) (.ref p) (.fr (.lst ds)) (fun a => a = p) := by
  have nF : F p = none := by
    cases q : F p with
    | none => rfl
    | some u => have := S.le _ _ q; rw [hp] at this; cases this
  exact ⟨.lst upd_same nF r fun b => Iff.rfl, fun a e q => by
    have e : a = p := e
    subst e
    exact (S.ow_out q).2.1 hp⟩
/-- a new tuple of clean items -/
theorem RepR.newT {ow : AS} (le : Same F H) {p : Addr} {o : Obj} {vs : List V} {ds : List PyData} (hd : o.dict = none) (hp : H p = none) (r : Reps K F vs ds) : RepR K (upd F p (.frz o (.tup vs))) (upd H p (.frz o (.tup vs))) σ ow (.ref p) (.cl (.tuple ds)) noA := by
  have nF : F p = none := by
    cases q : F p with
    | none => rfl
    | some u => have := le _ _ q; rw [hp] at this; cases this
  exact ⟨.tup (.inl ⟨o, upd_same, hd⟩) (r.mono (same_upd nF)), fun _ z => z⟩
end
theorem Reps.append {K : Fg} {F : Hp} : ∀ {vs ws : List V} {ds es : List PyData}, Reps K F vs ds → Reps K F ws es → Reps K F (vs ++ ws) (ds ++ es)
  | _, _, _, _, .nil, s => s
  | _, _, _, _, .cons r t, s => .cons r (Reps.append t s)
theorem Reps.rep {K : Fg} {F : Hp} {vs : List V} {ds : List PyData} (r : Reps K F vs ds) : ∀ n : Nat, Reps K F (List.replicate n vs).flatten (List.replicate n ds).flatten
  | 0 => .nil
  | n + 1 => by
    rw [List.replicate_succ, List.replicate_succ, List.flatten_cons, List.flatten_cons]
    exact r.append (Reps.rep r n)
theorem Reps.nilD {K : Fg} {F : Hp} {vs : List V} {ds : List PyData} (r : Reps K F vs ds) : vs = [] ↔ ds = [] := by
  cases r with
  | nil => exact ⟨fun _ => rfl, fun _ => rfl⟩
  | cons _ _ => exact ⟨fun h => (by cases h), fun h => (by cases h)⟩

/-! ### + -/
def addO : OV → OV → Option Res
  | .fr (.int i), .fr (.int j) => some (.cl (.int (i + j)))
  | .fr (.str a), .fr (.str b) => if a.length + b.length ≤ sizeLine then some (.cl (.str (a ++ b))) else none
  | .fr (.tuple a), .fr (.tuple b) => if a.length + b.length ≤ sizeLine then some (.cl (.tuple (a ++ b))) else none
  | .fr (.int _), .fr (.bool _) => none
  | o1, o2 => match o1.lsv, o2.lsv with
    | some a, some b => if a.length + b.length ≤ sizeLine then some (.fr (.lst (a ++ b))) else none
    | _, _ => none
def lift2 (f : OV → OV → Option Res) (ρ : Env) (r1 r2 : Res) : Option Res := match r1.ov ρ, r2.ov ρ with
  | some a, some b => f a b
  | _, _ => none
theorem lift2_inv {f : OV → OV → Option Res} {ρ : Env} {r1 r2 res : Res} (e : lift2 f ρ r1 r2 = some res) : ∃ a b, r1.ov ρ = some a ∧ r2.ov ρ = some b ∧ f a b = some res := by
  unfold lift2 at e
  split at e
  · rename_i a b h1 h2; exact ⟨a, b, h1, h2, e⟩
  · cases e
def rCatP (K : Fg) : R2 := fun x y H Q => ∃ a b xs ys, x = .ref a ∧ y = .ref b ∧ SqT K H a xs ∧ SqT K H b ys ∧ xs.length + ys.length ≤ sizeLine ∧
  (xs = [] → Q (.ref b) H) ∧ (xs ≠ [] → ys = [] → Q (.ref a) H) ∧ (xs ≠ [] → ys ≠ [] → ∀ (p : Addr) (o : Obj), o.dict = none → H p = none → Q (.ref p) (upd H p (.frz o (.tup (xs ++ ys)))))
theorem op_catP {X : Cx} : OpR X (binaryOp .Add) (rCatP X.K) := by
  intro pins s σ H x y v u Q I rx ry h
  obtain ⟨a, b, xs, ys, rfl, rfl, ha, hb, hz, q0, q1, q2⟩ := h
  by_cases hx : xs = []
  · subst hx
    cases rx
    cases ry
    obtain ⟨its, r1, p1, _⟩ := I.tuple ha
    obtain ⟨its2, r2, p2, _⟩ := I.tuple hb
    cases r1
    exact cat_tup0 p1 p2 ⟨.ref b, H, I, rfl, q0 rfl⟩
  · cases rx
    cases ry
    obtain ⟨its, r1, p1, _⟩ := I.tuple ha
    obtain ⟨its2, r2, p2, _⟩ := I.tuple hb
    refine HT.cat_tup p1 p2 (fun z => hx (r1.nil_iff.mp z)) (fun z => ⟨.ref a, H, I, rfl, q1 hx (r2.nil_iff.mp z)⟩) (fun z => ?_) (by rw [← r1.length, ← r2.length]; exact hz)
    refine ⟨.ref s.heap.objs.size, _, I.laid (t' := s.toks) (o := .frz _ (.tup (xs ++ ys))) (fun b ob q => Heap.get?_push_of_some _ q) (Nat.le_refl _) ⟨Heap.get?_push_size _ rfl, by rw [List.length_append]; exact hz, _, r1.append r2, IsTup.new _ _⟩, rfl, q2 hx (fun w => z (r2.nil_iff.mpr w)) _ _ rfl (I.hok.fresh (Nat.le_refl _))⟩
def rAddA (K : Fg) : R2 := fun x y H Q => ((rI0 fun i j => .int (i + j)) x y H Q ∨ (∃ i j, x = .str i ∧ y = .str j ∧ i.length + j.length ≤ sizeLine ∧ Q (.str (i ++ j)) H)) ∨ rCatP K x y H Q ∨ rCat x y H Q
theorem op_addA {X : Cx} : OpR X (binaryOp .Add) (rAddA X.K) := (op_add.or op_add_str).or (op_catP.or op_cat)
theorem addA_ok (K : Fg) : Op2 K (rAddA K) (lift2 addO) := by
  intro pv F H σ ρ fps x y r1 r2 res f1 f2 Q S R1 R2 d e k
  obtain ⟨a, b, e1, e2, e⟩ := lift2_inv e
  unfold addO at e
  split at e
  · cases e
    have q1 := (R1.frD S e1).intI
    have q2 := (R2.frD S e2).intI
    exact .inl (.inl ⟨_, _, q1, q2, k _ F H noA (Grow.refl S.le) ⟨.int _, fun _ z => z⟩⟩)
  · split at e
    · rename_i hz
      cases e
      exact .inl (.inr ⟨_, _, (R1.frD S e1).strI, (R2.frD S e2).strI, hz, k _ F H noA (Grow.refl S.le) ⟨.str _, fun _ z => z⟩⟩)
    · cases e
  · split at e
    · rename_i hz
      cases e
      obtain ⟨p1, vs, rfl, t1, s1⟩ := (R1.frD S e1).tupP
      obtain ⟨p2, ws, rfl, t2, s2⟩ := (R2.frD S e2).tupP
      refine .inr (.inl ⟨p1, p2, vs, ws, rfl, rfl, Same.sqT S.le t1.t, Same.sqT S.le t2.t, by rw [s1.length, s2.length]; exact hz, fun z => ?_, fun _ z => ?_, fun _ _ p o hd hp => ?_⟩)
      · have z2 := s1.nilD.mp z
        refine k _ F H noA (Grow.refl S.le) ⟨?_, fun _ z => z⟩
        rw [z2]
        exact .tup t2 s2
      · have z2 := s2.nilD.mp z
        refine k _ F H noA (Grow.refl S.le) ⟨?_, fun _ z => z⟩
        rw [z2, List.append_nil]
        exact .tup t1 s1
      · exact k _ _ _ _ (Grow.frozenT S.le hp) (RepR.newT S.le hd hp (s1.append s2))
    · cases e
  · cases e
  · split at e
    · rename_i a1 b1 h1 h2
      split at e
      · rename_i hz
        cases e
        obtain ⟨p1, vs, rfl, t1, s1⟩ := R1.lsv S e1 h1
        obtain ⟨p2, ws, rfl, t2, s2⟩ := R2.lsv S e2 h2
        exact .inr (.inr ⟨p1, p2, vs, ws, rfl, rfl, t1, t2, by rw [s1.length, s2.length]; exact hz, fun p hp => k _ _ _ _ (Grow.ownedT S.le hp) (RepR.newL S hp (s1.append s2))⟩)
      · cases e
    · cases e
/-! ### -, *, //, %, ** -/
def subO : OV → OV → Option Res
  | .fr (.int i), .fr (.int j) => some (.cl (.int (i - j)))
  | _, _ => none
theorem sub_ok (K : Fg) : Op2 K (rI0 fun i j => .int (i - j)) (lift2 subO) := by
  intro pv F H σ ρ fps x y r1 r2 res f1 f2 Q S R1 R2 d e k
  obtain ⟨a, b, e1, e2, e⟩ := lift2_inv e
  unfold subO at e
  split at e
  · cases e
    exact ⟨_, _, (R1.frD S e1).intI, (R2.frD S e2).intI, k _ F H noA (Grow.refl S.le) ⟨.int _, fun _ z => z⟩⟩
  · cases e
/-- an int operation under a condition -/
theorem opC_ok (K : Fg) {C : Int → Int → Prop} {c : Int → Int → Bool} {g : Int → Int → Int} (hc : ∀ i j, c i j = true → C i j) {o : OV → OV → Option Res} (ho : ∀ a b res, o a b = some res → ∃ i j, a = .fr (.int i) ∧ b = .fr (.int j) ∧ c i j = true ∧ res = .cl (.int (g i j))) : Op2 K (rI C fun i j => .int (g i j)) (lift2 o) := by
  intro pv F H σ ρ fps x y r1 r2 res f1 f2 Q S R1 R2 d e k
  obtain ⟨a, b, e1, e2, e⟩ := lift2_inv e
  obtain ⟨i, j, rfl, rfl, hcc, rfl⟩ := ho a b res e
  exact ⟨_, _, (R1.frD S e1).intI, (R2.frD S e2).intI, hc i j hcc, k _ F H noA (Grow.refl S.le) ⟨.int _, fun _ z => z⟩⟩
def intO (c : Int → Int → Bool) (g : Int → Int → Int) : OV → OV → Option Res
  | .fr (.int i), .fr (.int j) => if c i j = true then some (.cl (.int (g i j))) else none
  | _, _ => none
theorem intO_inv {c : Int → Int → Bool} {g : Int → Int → Int} (a b : OV) (res : Res) (e : intO c g a b = some res) : ∃ i j, a = .fr (.int i) ∧ b = .fr (.int j) ∧ c i j = true ∧ res = .cl (.int (g i j)) := by
  unfold intO at e
  split at e
  · split at e
    · rename_i hc
      cases e
      exact ⟨_, _, rfl, rfl, hc, rfl⟩
    · cases e
  · cases e
def c64 (i : Int) : Bool := decide (-(2 ^ 64) < i) && decide (i < 2 ^ 64)
def cMul (i j : Int) : Bool := c64 i || c64 j
def cDiv (_ j : Int) : Bool := decide (0 < j) && decide (j < 1073741824)
def cDivW (_ j : Int) : Bool := decide (0 < j) && decide (j.natAbs.log2 < 9000)
def cMod (_ j : Int) : Bool := decide (0 < j)
def cPow (i j : Int) : Bool := decide (0 ≤ j) && decide (j ≤ 1000000) && decide (i.natAbs < 2 ^ 64)
theorem div_ok (K : Fg) : Op2 K (rI CDiv fun i j => .int (i / j)) (lift2 (intO cDiv fun i j => i / j)) := opC_ok K (fun i j h => by
  have := Bool.and_eq_true_iff.mp h
  exact ⟨of_decide_eq_true this.1, of_decide_eq_true this.2⟩) intO_inv
theorem mod_ok (K : Fg) : Op2 K (rI (fun _ j => 0 < j) fun i j => .int (i % j)) (lift2 (intO cMod fun i j => i % j)) := opC_ok K (fun i j h => of_decide_eq_true h) intO_inv
theorem pow_ok (K : Fg) : Op2 K (rI CPow fun i j => .int (i ^ j.toNat)) (lift2 (intO cPow fun i j => i ^ j.toNat)) := opC_ok K (fun i j h => by
  have := Bool.and_eq_true_iff.mp h
  have h1 := Bool.and_eq_true_iff.mp this.1
  exact ⟨of_decide_eq_true h1.1, of_decide_eq_true h1.2, of_decide_eq_true this.2⟩) intO_inv
def mulO : OV → OV → Option Res
  | .fr (.int i), .fr (.int j) => if cMul i j = true then some (.cl (.int (i * j))) else none
  | .fr (.tuple ds), .fr (.int k) => if (ds.length ≤ 1000 ∧ -1000 ≤ k) ∧ (k ≤ 1000 ∨ (ds.length ≤ 10 ∧ k ≤ 100000)) then some (.cl (.tuple (List.replicate k.toNat ds).flatten)) else none
  | o, .fr (.int k) => match o.lsv with
    | some ds => if (ds.length ≤ 1000 ∧ -1000 ≤ k) ∧ k ≤ 10000 then some (.fr (.lst (List.replicate k.toNat ds).flatten)) else none
    | none => none
  | _, _ => none
def rMulA (K : Fg) : R2 := fun x y H Q => (rI CMul fun i j => .int (i * j)) x y H Q ∨ rRepN K x y H Q ∨ rRep x y H Q
theorem op_mulA {X : Cx} : OpR X (binaryOp .Mult) (rMulA X.K) := op_mul.or (op_repN.or op_rep)
theorem mulA_ok (K : Fg) : Op2 K (rMulA K) (lift2 mulO) := by
  intro pv F H σ ρ fps x y r1 r2 res f1 f2 Q S R1 R2 d e k
  obtain ⟨a, b, e1, e2, e⟩ := lift2_inv e
  unfold mulO at e
  split at e
  · split at e
    · rename_i i j hc
      cases e
      refine .inl ⟨_, _, (R1.frD S e1).intI, (R2.frD S e2).intI, ?_, k _ F H noA (Grow.refl S.le) ⟨.int _, fun _ z => z⟩⟩
      rcases Bool.or_eq_true_iff.mp hc with h | h
      · have := Bool.and_eq_true_iff.mp h
        exact .inl ⟨of_decide_eq_true this.1, of_decide_eq_true this.2⟩
      · have := Bool.and_eq_true_iff.mp h
        exact .inr ⟨of_decide_eq_true this.1, of_decide_eq_true this.2⟩
    · cases e
  · split at e
    · rename_i ds n hc
      cases e
      obtain ⟨p1, vs, rfl, t1, s1⟩ := (R1.frD S e1).tupP
      refine .inr (.inl ⟨p1, n, vs, rfl, (R2.frD S e2).intI, Same.sqT S.le t1.t, hc.1.2, by rw [s1.length]; exact hc.2, by rw [s1.length]; exact hc.1.1, fun z => ?_, fun _ _ p o hd hp => k _ _ _ _ (Grow.frozenT S.le hp) (RepR.newT S.le hd hp (s1.rep n.toNat))⟩)
      refine k _ F H noA (Grow.refl S.le) ⟨?_, fun _ z => z⟩
      have : (List.replicate n.toNat ds).flatten = ds := by
        rcases z with z | z
        · rw [s1.nilD.mp z]; simp
        · rw [z]; simp
      rw [this]
      exact .tup t1 s1
    · cases e
  · split at e
    · rename_i ds h1
      split at e
      · rename_i hc
        cases e
        obtain ⟨p1, vs, rfl, t1, s1⟩ := R1.lsv S e1 h1
        rename_i n _ _ _
        refine .inr (.inr ⟨p1, n, vs, rfl, (R2.frD S e2).intI, t1, by omega, by omega, ?_, fun p hp => k _ _ _ _ (Grow.ownedT S.le hp) (RepR.newL S hp (s1.rep n.toNat))⟩)
        rw [s1.length, sizeLine_eq]
        have a1 : ds.length * n.toNat ≤ 1000 * 10000 := Nat.mul_le_mul hc.1.1 (by omega)
        omega
      · cases e
    · cases e
  · cases e
/-! ### <, <=, >, >= of ints -/
def cmpO (g : Int → Int → Bool) : OV → OV → Option Res
  | .fr (.int i), .fr (.int j) => some (.cl (.bool (g i j)))
  | _, _ => none
theorem cmp_ok (K : Fg) (g : Int → Int → Bool) : Op2 K (rI0 fun i j => .bl (g i j)) (lift2 (cmpO g)) := by
  intro pv F H σ ρ fps x y r1 r2 res f1 f2 Q S R1 R2 d e k
  obtain ⟨a, b, e1, e2, e⟩ := lift2_inv e
  unfold cmpO at e
  split at e
  · cases e
    exact ⟨_, _, (R1.frD S e1).intI, (R2.frD S e2).intI, k _ F H noA (Grow.refl S.le) ⟨.bool _, fun _ z => z⟩⟩
  · cases e
end Dt

namespace Dt
open PySem PySem.Spec PyProof.Rows L2

/-! ### ==, in -/
mutual
theorem Rep.dp {K : Fg} {H : Hp} : ∀ {v : V} {d : PyData}, Rep K H v d → d.canLay0 = true → Dp K H v d
  | _, _, .none, _ => .non
  | _, _, .bool b, _ => .bl b
  | _, _, .int i, _ => .int i
  | _, _, .str x, _ => .str x
  | _, _, .tup h r, e => .tup h.t (Reps.dp r (by simpa only [PyData.canLay0] using e))
  | _, _, .lst h r, e => .lst (.of h) (Reps.dp r (by simpa only [PyData.canLay0] using e))
  | _, _, .dct h r, e => by simp only [PyData.canLay0] at e; cases e
theorem Reps.dp {K : Fg} {H : Hp} : ∀ {vs : List V} {ds : List PyData}, Reps K H vs ds → PyData.canLayAll0 ds = true → DpAll K H vs ds
  | _, _, .nil, _ => .nil
  | _, _, .cons h r, e => by
    have e2 : _ ∧ _ := Bool.and_eq_true_iff.mp (by simpa only [PyData.canLayAll0] using e)
    exact .cons (Rep.dp h e2.1) (Reps.dp r e2.2)
end
theorem lay_of {d : PyData} (h : SeqAt.shaped d = true) : d.canLay0 = true := (Bool.and_eq_true_iff.mp h).1
def dat2 (g : PyData → PyData → Option Bool) (ρ : Env) (r1 r2 : Res) : Option Res := match r1.dat ρ, r2.dat ρ with
  | some a, some b => (g a b).map fun c => .cl (.bool c)
  | _, _ => none
theorem dat2_inv {g : PyData → PyData → Option Bool} {ρ : Env} {r1 r2 res : Res} (e : dat2 g ρ r1 r2 = some res) : ∃ a b c, r1.dat ρ = some a ∧ r2.dat ρ = some b ∧ g a b = some c ∧ res = .cl (.bool c) := by
  unfold dat2 at e
  split at e
  · rename_i a b h1 h2
    cases hg : g a b with
    | none => rw [hg] at e; cases e
    | some c => rw [hg] at e; cases e; exact ⟨a, b, c, h1, h2, hg, rfl⟩
  · cases e
def eqD (neg : Bool) (a b : PyData) : Option Bool := if SeqAt.shaped a = true ∧ SeqAt.shaped b = true then some (if neg = true then !PyData.eqv a b else PyData.eqv a b) else none
theorem eq_ok (K : Fg) : Op2 K (rEqD K) (dat2 (eqD false)) := by
  intro pv F H σ ρ fps x y r1 r2 res f1 f2 Q S R1 R2 d e k
  obtain ⟨a, b, c, e1, e2, e3, rfl⟩ := dat2_inv e
  unfold eqD at e3
  split at e3
  · rename_i hs
    cases e3
    exact ⟨a, b, (R1.dat S e1).dp (lay_of hs.1), (R2.dat S e2).dp (lay_of hs.2), hs.1, hs.2, k _ F H noA (Grow.refl S.le) ⟨.bool _, fun _ z => z⟩⟩
  · cases e3
theorem ne_ok (K : Fg) : Op2 K (rNeD K) (dat2 (eqD true)) := by
  intro pv F H σ ρ fps x y r1 r2 res f1 f2 Q S R1 R2 d e k
  obtain ⟨a, b, c, e1, e2, e3, rfl⟩ := dat2_inv e
  unfold eqD at e3
  split at e3
  · rename_i hs
    cases e3
    exact ⟨a, b, (R1.dat S e1).dp (lay_of hs.1), (R2.dat S e2).dp (lay_of hs.2), hs.1, hs.2, k _ F H noA (Grow.refl S.le) ⟨.bool _, fun _ z => z⟩⟩
  · cases e3
def anyEq (ds : List PyData) (d : PyData) : Bool := ds.any fun z => PyData.eqv z d
def inD (neg : Bool) (d c : PyData) : Option Bool := match c with
  | .list ds => if SeqAt.shaped d = true ∧ SeqAt.shaped (.list ds) = true then some (if neg = true then !anyEq ds d else anyEq ds d) else none
  | .tuple ds => if SeqAt.shaped d = true ∧ SeqAt.shaped (.tuple ds) = true then some (if neg = true then !anyEq ds d else anyEq ds d) else none
  | .str z => match d with
    | .str ⟨⟨[a]⟩⟩ => some (if neg = true then !decide (a ∈ z.cps.toList) else decide (a ∈ z.cps.toList))
    | _ => none
  | _ => none
/-! ### is None -/
def isNoneD : PyData → Bool
  | .none => true
  | _ => false
def isND (neg : Bool) (a b : PyData) : Option Bool := if isNoneD b = true then some (if neg = true then !isNoneD a else isNoneD a) else none
theorem isN_core {K : Fg} {H : Hp} {v : V} {d : PyData} (r : Rep K H v d) : decide (v = .non) = isNoneD d := by
  cases r <;> rfl
theorem isN_eq {K : Fg} {H : Hp} {v : V} {d : PyData} (r : Rep K H v d) (h : isNoneD d = true) : v = .non := of_decide_eq_true ((isN_core r).trans h)
theorem isN_ok (K : Fg) : Op2 K (fun x y H Q => y = .non ∧ Q (.bl (decide (x = .non))) H) (dat2 (isND false)) := by
  intro pv F H σ ρ fps x y r1 r2 res f1 f2 Q S R1 R2 d e k
  obtain ⟨a, b, c, e1, e2, e3, rfl⟩ := dat2_inv e
  unfold isND at e3
  split at e3
  · rename_i h
    cases e3
    refine ⟨isN_eq (R2.dat S e2) h, ?_⟩
    rw [isN_core (R1.dat S e1)]
    exact k _ F H noA (Grow.refl S.le) ⟨.bool _, fun _ z => z⟩
  · cases e3
theorem notN_ok (K : Fg) : Op2 K (fun x y H Q => y = .non ∧ Q (.bl (!decide (x = .non))) H) (dat2 (isND true)) := by
  intro pv F H σ ρ fps x y r1 r2 res f1 f2 Q S R1 R2 d e k
  obtain ⟨a, b, c, e1, e2, e3, rfl⟩ := dat2_inv e
  unfold isND at e3
  split at e3
  · rename_i h
    cases e3
    refine ⟨isN_eq (R2.dat S e2) h, ?_⟩
    rw [isN_core (R1.dat S e1)]
    exact k _ F H noA (Grow.refl S.le) ⟨.bool _, fun _ z => z⟩
  · cases e3

/-! ### isinstance(x, T) -/
def kindD : PyData → String
  | .none => "NoneType"
  | .bool _ => "bool"
  | .int _ => "int"
  | .str _ => "str"
  | .list _ => "list"
  | .tuple _ => "tuple"
  | .dict _ => "dict"
theorem tyX {K : Fg} {H : Hp} {v : V} {d : PyData} (r : Rep K H v d) : TyX K H v (.type (kindD d)) := by
  cases r with
  | none => exact .base .non
  | bool b => exact .base (.bl b)
  | int i => exact .base (.int i)
  | str x => exact .base (.str x)
  | tup h _ =>
    rcases h with ⟨o, h, _⟩ | ⟨o, its, n, h, c, _⟩
    · exact .fTuple h
    · exact .kTuple h c
  | lst h _ => exact .base (.lst h)
  | dct h _ => exact .base (.dK h)
def isT (T : String) : PyData → Bool
  | .bool _ => T == "bool" || T == "int"
  | d => kindD d == T
theorem kit_T {K : Fg} {T : String} (hT : T = "int" ∨ T = "bool" ∨ T = "str" ∨ T = "tuple" ∨ T = "list" ∨ T = "dict") (d : PyData) : PySem.W.kitOne K (.type (kindD d)) (.type T) = some (isT T d) := by
  rcases hT with rfl | rfl | rfl | rfl | rfl | rfl <;> cases d <;> rfl

def gIsi (T : String) (g : DE) : DE := fun ρ Q => g ρ fun q r ρ' => ok (r.dat ρ') fun d => Q q (.cl (.bool (isT T d))) ρ'
section
variable {X : Cx} {pv : Pins} {pos p : Pos}
theorem dv_isi {e : Expr} {g : DE} {T : Str} {T' : String} {pT : Pos} (he : DEv X pv e g) (hg : Gl X "isinstance") (hm : X.mg "isinstance" = none) (hgT : Gl X T) (hmT : X.mg T = none) (hv : bootBuiltins T = some (.type T'))
    (hT : T' = "int" ∨ T' = "bool" ∨ T' = "str" ∨ T' = "tuple" ∨ T' = "list" ∨ T' = "dict") (hn : T ≠ "__name__" := by decide) (hd : (T == ("__debug__" : Str)) = false := by decide)
    (hs : starEach (e :: [.Name T pT]) X.env = (false, eval e X.env) :: starEach [.Name T pT] X.env := by rfl) (hs2 : starEach [.Name T pT] X.env = (false, eval (.Name T pT) X.env) :: starEach [] X.env := by rfl) (hpl : (backTo pos (starEach [.Name T pT] X.env)).any (·.1) = false := by rfl) :
    DEv X pv (.Call (.Name "isinstance" p) [e, .Name T pT] [] pos) (gIsi T' g) :=
  PE.to (pe_callB call_isi hg hm (by decide +kernel) (pa_cons he (pa_cons (pe_bltn (v := .ty T') hgT hmT hv rfl hn hd) pa_nil hs2) hs) (by decide) (by decide) hs hpl) fun σ H Q ⟨ρ, F, fps, Q0, S, ex, h, k⟩ => by
    refine ⟨ρ, F, fps, _, S, ex, h, fun q r ρ' v H' F' fps' f ⟨d, e, q0⟩ S' s er kq => ?_⟩
    have rp := er.dat S' e
    exact ⟨v, .ty T', _, _, _, rfl, .ty T', tyX rp, kit_T hT d, k q _ ρ' _ H' F' fps' noA q0 S' s.nof ⟨.bool _, fun _ z => z⟩ kq⟩
end

/-! ### built-in functions of one argument -/
def dat1 (g : PyData → Option PyData) (ρ : Env) (rs : List Res) : Option Res := match rs with
  | [r] => match r.dat ρ with
    | some a => (g a).map Res.cl
    | none => none
  | _ => none
theorem dat1_inv {g : PyData → Option PyData} {ρ : Env} {rs : List Res} {res : Res} (e : dat1 g ρ rs = some res) : ∃ r a d, rs = [r] ∧ r.dat ρ = some a ∧ g a = some d ∧ res = .cl d := by
  unfold dat1 at e
  split at e
  · split at e
    · rename_i r o a h
      cases hg : g a with
      | none => rw [hg] at e; cases e
      | some d => rw [hg] at e; cases e; exact ⟨r, a, d, rfl, h, hg, rfl⟩
    · cases e
  · cases e
theorem RepRs.one {K : Fg} {F H : Hp} {σ : St} {ow : AS} {xs : List V} {r : Res} {tf : AS} (h : RepRs K F H σ ow xs [r] tf) : ∃ v f, xs = [v] ∧ RepR K F H σ ow v r f ∧ ∀ a, tf a ↔ f a := by
  cases xs with
  | nil => exact h.elim
  | cons v vs =>
    cases vs with
    | nil =>
      obtain ⟨f1, f2, h1, h2, _, e⟩ := h
      exact ⟨v, f1, rfl, h1, fun a => ⟨fun z => ((e a).mp z).elim id fun z => (h2 a z).elim, fun z => (e a).mpr (.inl z)⟩⟩
    | cons _ _ =>
      obtain ⟨f1, f2, h1, h2, _, e⟩ := h
      exact h2.elim
def intD : PyData → Option PyData
  | .int i => some (.int i)
  | .bool b => some (.int (if b then 1 else 0))
  | _ => none
theorem int_ok (K : Fg) : OpN K (fun xs H Q => (∃ i, xs = [.int i] ∧ Q (.int i) H) ∨ ∃ k, xs = [.bl k] ∧ Q (.int (if k then 1 else 0)) H) (dat1 intD) := by
  intro pv F H σ ρ fps xs rs res tf Q S R e k
  obtain ⟨r, a, d, rfl, e1, e2, rfl⟩ := dat1_inv e
  obtain ⟨v, f, rfl, R1, _⟩ := R.one
  have rp := R1.dat S e1
  unfold intD at e2
  split at e2
  · cases e2
    exact .inl ⟨_, by rw [rp.intI], k _ F H noA (Grow.refl S.le) ⟨.int _, fun _ z => z⟩⟩
  · cases e2
    exact .inr ⟨_, by rw [rp.boolI], k _ F H noA (Grow.refl S.le) ⟨.int _, fun _ z => z⟩⟩
  · cases e2
/-- len: of a list, a tuple, a text, a dict -/
def OV.lenO : OV → Option Nat
  | .fr (.str x) => if x.length ≤ sizeLine then some x.length else none
  | .fr (.dict kvs) => some kvs.length
  | .dct kvs => some kvs.length
  | o => o.seq.map fun p => p.2.length
def lenR (ρ : Env) (rs : List Res) : Option Res := match rs with
  | [r] => (r.ov ρ).bind fun o => o.lenO.map fun n => .cl (.int (n : Nat))
  | _ => none
theorem RepKV.length {K : Fg} {F : Hp} : ∀ {vs : List (Key × V)} {ds : List (PyData × PyData)}, RepKV K F vs ds → vs.length = ds.length
  | _, _, .nil => rfl
  | _, _, .cons _ r => by rw [List.length_cons, List.length_cons, RepKV.length r]
theorem RepOs.length {K : Fg} {F H : Hp} : ∀ {vs : List (Key × V)} {ds : List (Key × OV)} {f : AS}, RepOs K F H vs ds f → vs.length = ds.length
  | _, _, _, .nil _ => rfl
  | _, _, _, .cons _ r _ _ => by rw [List.length_cons, List.length_cons, RepOs.length r]
def rLenA (K : Fg) : List V → Hp → VK → Prop := fun xs H Q => (∃ x n, xs = [x] ∧ LenV K x H n ∧ Q (.int n) H) ∨ ∃ a kvs, xs = [V.ref a] ∧ H a = some (.dK kvs) ∧ Q (.int kvs.length) H
theorem call_lenA {X : Cx} : CallR X (.builtin "len") (rLenA X.K) := call_len.or call_lenD
theorem len_ok (K : Fg) : OpN K (rLenA K) lenR := by
  intro pv F H σ ρ fps xs rs res tf Q S R e k
  unfold lenR at e
  split at e
  · rename_i r
    obtain ⟨v, f, rfl, R1, _⟩ := R.one
    cases ho : r.ov ρ with
    | none => rw [ho] at e; cases e
    | some o =>
      rw [ho] at e
      have e : (o.lenO.map fun n => Res.cl (.int (n : Nat))) = some res := e
      obtain ⟨fp, q, _⟩ := R1.rep S ho
      have fin : ∀ n : Nat, res = .cl (.int (n : Nat)) → Q (.int (n : Nat)) H := fun n er => by
        subst er
        exact k _ F H noA (Grow.refl S.le) ⟨.int _, fun _ z => z⟩
      have byseq : ∀ (b : Bool) (ds : List PyData), o.seq = some (b, ds) → rLenA K [v] H Q ∨ res ≠ .cl (.int (ds.length : Nat)) := fun b ds es => by
        by_cases er : res = .cl (.int (ds.length : Nat))
        · refine .inl (.inl ⟨v, ds.length, rfl, ?_, fin _ er⟩)
          cases b with
          | true =>
            obtain ⟨a, vs, rfl, h1, h2⟩ := q.seqL S.le es
            exact .inl ⟨vs, h1, h2.length.symm⟩
          | false =>
            obtain ⟨a, vs, rfl, h1, h2⟩ := q.seqT S.le es
            exact .inr ⟨vs, Same.sqT S.le h1, h2.length.symm⟩
        · exact .inr er
      have viaseq : (o.seq.map fun p => p.2.length).map (fun n => Res.cl (.int (n : Nat))) = some res → rLenA K [v] H Q := fun e => by
        cases hs : o.seq with
        | none => rw [hs] at e; cases e
        | some p =>
          obtain ⟨b, ds⟩ := p
          rw [hs] at e
          cases e
          exact (byseq b ds hs).elim id fun z => absurd rfl z
      unfold OV.lenO at e
      split at e
      · split at e
        · rename_i hz
          cases e
          cases q with
          | fr q n =>
            rw [q.strI]
            exact .inl ⟨_, _, rfl, ⟨hz, rfl⟩, k _ F H noA (Grow.refl S.le) ⟨.int _, fun _ z => z⟩⟩
        · cases e
      · cases e
        cases q with
        | fr q n =>
          cases q with
          | dct h r => exact .inr ⟨_, _, rfl, S.le _ _ h, by rw [r.length]; exact k _ F H noA (Grow.refl S.le) ⟨.int _, fun _ z => z⟩⟩
      · cases e
        cases q with
        | dct h n r x f => exact .inr ⟨_, _, rfl, h, by rw [r.length]; exact k _ F H noA (Grow.refl S.le) ⟨.int _, fun _ z => z⟩⟩
      · exact viaseq e
  · cases e
end Dt

namespace Dt
open PySem PySem.Spec PyProof.Rows L2

/-! ### places: what is owned, changed at a path -/
def repl {κ α : Type} [BEq κ] (k : κ) (x : α) : List (κ × α) → List (κ × α)
  | [] => []
  | (k1, y) :: r => if (k == k1) = true then (k1, x) :: r else (k1, y) :: repl k x r
def OV.put : OV → List PK → OV → OV
  | _, [], o' => o'
  | .dct kvs, .key k :: ps, o' => match kvs.lookup k with
    | some o => .dct (repl k (o.put ps o') kvs)
    | none => .dct kvs
  | .ins C fs, .att f :: ps, o' => match fs.lookup f with
    | some o => .ins C (repl f (o.put ps o') fs)
    | none => .ins C fs
  | o, _ :: _, _ => o
section
variable {K : Fg} {F H : Hp} {a : Addr} {ho : HO} {ft : AS}
/-- the change of a part: behind it the part is o2, its cells are the old ones or of ft, and the cell a was one of them -/
def Chg (K : Fg) (F H : Hp) (a : Addr) (ho : HO) (ft : AS) (w : V) (o o2 : OV) : Prop := ∀ f1 : AS, RepO K F H w o f1 → (∀ b, ft b → ¬ f1 b) → ∃ f2 : AS, RepO K F (upd H a ho) w o2 f2 ∧ (∀ b, f2 b → f1 b ∨ ft b) ∧ f1 a
theorem RepOs.repl {k : Key} {o o2 : OV} {w : V} : ∀ {kvs : List (Key × V)} {os : List (Key × OV)} {fp : AS}, RepOs K F H kvs os fp → kvs.lookup k = some w → os.lookup k = some o → Chg K F H a ho ft w o o2 → (∀ b, ft b → ¬ fp b) →
    ∃ fp' : AS, RepOs K F (upd H a ho) kvs (Dt.repl k o2 os) fp' ∧ (∀ b, fp' b → fp b ∨ ft b) ∧ fp a
  | _, _, _, .nil _, e, _, _, _ => by cases e
  | _, _, _, .cons (k := k1) (v := v1) (o := o1) (kvs := kvs) (os := os) (fp := fp) (fp1 := fp1) (fp2 := fp2) h r x f, e, e2, hn, hd => by
    rw [List.lookup_cons] at e e2
    cases hk : k == k1 with
    | true =>
      rw [hk] at e e2
      cases e
      cases e2
      obtain ⟨f2, q1, q2, q3⟩ := hn fp1 h fun b z z2 => hd b z ((f b).mpr (.inl z2))
      have na : ¬ fp2 a := fun z => x a q3 z
      have r' : RepOs K F (upd H a ho) kvs os fp2 := r.mono (Same.refl F) fun b p => ⟨upd_ne fun z => by subst z; exact na p, (r.out b p).1⟩
      refine ⟨fun b => f2 b ∨ fp2 b, ?_, fun b z => ?_, (f a).mpr (.inl q3)⟩
      · have : Dt.repl k o2 ((k1, o) :: os) = (k1, o2) :: os := by
          show (if (k == k1) = true then (k1, o2) :: os else _) = _
          rw [if_pos hk]
        rw [this]
        refine .cons q1 r' (fun b p p2 => ?_) fun b => Iff.rfl
        rcases q2 b p with z | z
        · exact x b z p2
        · exact hd b z ((f b).mpr (.inr p2))
      · rcases z with z | z
        · rcases q2 b z with z | z
          · exact .inl ((f b).mpr (.inl z))
          · exact .inr z
        · exact .inl ((f b).mpr (.inr z))
    | false =>
      have e : kvs.lookup k = some w := by rw [hk] at e; exact e
      have e2 : os.lookup k = some o := by rw [hk] at e2; exact e2
      obtain ⟨fp', g1, g2, g3⟩ := RepOs.repl r e e2 hn fun b z z2 => hd b z ((f b).mpr (.inr z2))
      have na : ¬ fp1 a := fun z => x a z g3
      have h' : RepO K F (upd H a ho) v1 o1 fp1 := h.mono (Same.refl F) fun b p => ⟨upd_ne fun z => by subst z; exact na p, (h.out b p).1⟩
      refine ⟨fun b => fp1 b ∨ fp' b, ?_, fun b z => ?_, (f a).mpr (.inr g3)⟩
      · have : Dt.repl k o2 ((k1, o1) :: os) = (k1, o1) :: Dt.repl k o2 os := by
          show (if (k == k1) = true then _ else _) = _
          rw [if_neg (by rw [hk]; exact Bool.false_ne_true)]
        rw [this]
        refine .cons h' g1 (fun b p p2 => ?_) fun b => Iff.rfl
        rcases g2 b p2 with z | z
        · exact x b p z
        · exact hd b z ((f b).mpr (.inl p))
      · rcases z with z | z
        · exact .inl ((f b).mpr (.inl z))
        · rcases g2 b z with z | z
          · exact .inl ((f b).mpr (.inr z))
          · exact .inr z
theorem RepOf.repl {k : Str} {o o2 : OV} {w : V} : ∀ {kvs : List (Str × V)} {os : List (Str × OV)} {fp : AS}, RepOf K F H kvs os fp → kvs.lookup k = some w → os.lookup k = some o → Chg K F H a ho ft w o o2 → (∀ b, ft b → ¬ fp b) →
    ∃ fp' : AS, RepOf K F (upd H a ho) kvs (Dt.repl k o2 os) fp' ∧ (∀ b, fp' b → fp b ∨ ft b) ∧ fp a
  | _, _, _, .nil _, e, _, _, _ => by cases e
  | _, _, _, .cons (k := k1) (v := v1) (o := o1) (kvs := kvs) (os := os) (fp := fp) (fp1 := fp1) (fp2 := fp2) h r x f, e, e2, hn, hd => by
    rw [List.lookup_cons] at e e2
    cases hk : k == k1 with
    | true =>
      rw [hk] at e e2
      cases e
      cases e2
      obtain ⟨f2, q1, q2, q3⟩ := hn fp1 h fun b z z2 => hd b z ((f b).mpr (.inl z2))
      have na : ¬ fp2 a := fun z => x a q3 z
      have r' : RepOf K F (upd H a ho) kvs os fp2 := r.mono (Same.refl F) fun b p => ⟨upd_ne fun z => by subst z; exact na p, (r.out b p).1⟩
      refine ⟨fun b => f2 b ∨ fp2 b, ?_, fun b z => ?_, (f a).mpr (.inl q3)⟩
      · have : Dt.repl k o2 ((k1, o) :: os) = (k1, o2) :: os := by
          show (if (k == k1) = true then (k1, o2) :: os else _) = _
          rw [if_pos hk]
        rw [this]
        refine .cons q1 r' (fun b p p2 => ?_) fun b => Iff.rfl
        rcases q2 b p with z | z
        · exact x b z p2
        · exact hd b z ((f b).mpr (.inr p2))
      · rcases z with z | z
        · rcases q2 b z with z | z
          · exact .inl ((f b).mpr (.inl z))
          · exact .inr z
        · exact .inl ((f b).mpr (.inr z))
    | false =>
      have e : kvs.lookup k = some w := by rw [hk] at e; exact e
      have e2 : os.lookup k = some o := by rw [hk] at e2; exact e2
      obtain ⟨fp', g1, g2, g3⟩ := RepOf.repl r e e2 hn fun b z z2 => hd b z ((f b).mpr (.inr z2))
      have na : ¬ fp1 a := fun z => x a z g3
      have h' : RepO K F (upd H a ho) v1 o1 fp1 := h.mono (Same.refl F) fun b p => ⟨upd_ne fun z => by subst z; exact na p, (h.out b p).1⟩
      refine ⟨fun b => fp1 b ∨ fp' b, ?_, fun b z => ?_, (f a).mpr (.inr g3)⟩
      · have : Dt.repl k o2 ((k1, o1) :: os) = (k1, o1) :: Dt.repl k o2 os := by
          show (if (k == k1) = true then _ else _) = _
          rw [if_neg (by rw [hk]; exact Bool.false_ne_true)]
        rw [this]
        refine .cons h' g1 (fun b p p2 => ?_) fun b => Iff.rfl
        rcases g2 b p2 with z | z
        · exact x b p z
        · exact hd b z ((f b).mpr (.inl p))
      · rcases z with z | z
        · exact .inl ((f b).mpr (.inl z))
        · rcases g2 b z with z | z
          · exact .inl ((f b).mpr (.inr z))
          · exact .inr z
/-- a change at the end of a path is a change of the whole -/
theorem Chg.path : ∀ {ps : List PK} {u v : V} {o o1 o2 : OV}, Walk H u ps v → o.get ps = some o1 → Chg K F H a ho ft v o1 o2 → Chg K F H a ho ft u o (o.put ps o2)
  | [], u, v, o, o1, o2, w, e, c => by
    have w : v = u := w
    subst w
    cases e
    have : o.put [] o2 = o2 := by cases o <;> rfl
    rw [this]
    exact c
  | .key k :: ps, u, v, o, o1, o2, w, e, c => fun f1 h hd => by
    obtain ⟨b, kvs, w1, rfl, hH, hl, w⟩ := w
    cases h with
    | dct h1 n r x f =>
      rename_i kvs1 os fp1
      rw [hH] at h1
      cases h1
      cases hs : os.lookup k with
      | none => unfold OV.get OV.sub at e; simp only [hs] at e; cases e
      | some oc =>
        unfold OV.get OV.sub at e
        simp only [hs] at e
        have ih := Chg.path w e c
        obtain ⟨fp', g1, g2, g3⟩ := r.repl hl hs ih fun b z z2 => hd b z ((f b).mpr (.inr z2))
        have ne : b ≠ a := fun z => by subst z; exact x g3
        have : (OV.dct os).put (.key k :: ps) o2 = .dct (Dt.repl k (oc.put ps o2) os) := by
          show (match os.lookup k with | some o => OV.dct (Dt.repl k (o.put ps o2) os) | none => OV.dct os) = _
          rw [hs]
        rw [this]
        refine ⟨fun c => c = b ∨ fp' c, .dct (by rw [upd_ne ne]; exact hH) n g1 (fun z => ?_) fun c => Iff.rfl, fun c z => ?_, (f a).mpr (.inr g3)⟩
        · rcases g2 b z with z | z
          · exact x z
          · exact hd b z ((f b).mpr (.inl rfl))
        · rcases z with z | z
          · exact .inl ((f c).mpr (.inl z))
          · rcases g2 c z with z | z
            · exact .inl ((f c).mpr (.inr z))
            · exact .inr z
    | fr _ _ => unfold OV.get OV.sub at e; cases e
    | lst _ _ _ _ => unfold OV.get OV.sub at e; cases e
    | dcT _ _ _ _ _ => unfold OV.get OV.sub at e; cases e
    | ins _ _ _ _ _ => unfold OV.get OV.sub at e; cases e
    | scr _ _ _ => unfold OV.get OV.sub at e; cases e
    | scrK _ _ => unfold OV.get OV.sub at e; cases e
    | opq _ _ _ => unfold OV.get OV.sub at e; cases e
  | .att k :: ps, u, v, o, o1, o2, w, e, c => fun f1 h hd => by
    obtain ⟨b, C, dx, kvs, w1, rfl, hH, hl, w⟩ := w
    cases h with
    | ins h1 n r x f =>
      rename_i C1 dx1 kvs1 os fp1
      rw [hH] at h1
      cases h1
      cases hs : os.lookup k with
      | none => unfold OV.get OV.sub at e; simp only [hs] at e; cases e
      | some oc =>
        unfold OV.get OV.sub at e
        simp only [hs] at e
        have ih := Chg.path w e c
        obtain ⟨fp', g1, g2, g3⟩ := r.repl hl hs ih fun b z z2 => hd b z ((f b).mpr (.inr z2))
        have ne : b ≠ a := fun z => by subst z; exact x g3
        have : (OV.ins C os).put (.att k :: ps) o2 = .ins C (Dt.repl k (oc.put ps o2) os) := by
          show (match os.lookup k with | some o => OV.ins C (Dt.repl k (o.put ps o2) os) | none => OV.ins C os) = _
          rw [hs]
        rw [this]
        refine ⟨fun c => c = b ∨ fp' c, .ins (by rw [upd_ne ne]; exact hH) n g1 (fun z => ?_) fun c => Iff.rfl, fun c z => ?_, (f a).mpr (.inr g3)⟩
        · rcases g2 b z with z | z
          · exact x z
          · exact hd b z ((f b).mpr (.inl rfl))
        · rcases z with z | z
          · exact .inl ((f c).mpr (.inl z))
          · rcases g2 c z with z | z
            · exact .inl ((f c).mpr (.inr z))
            · exact .inr z
    | fr _ _ => unfold OV.get OV.sub at e; cases e
    | lst _ _ _ _ => unfold OV.get OV.sub at e; cases e
    | dct _ _ _ _ _ => unfold OV.get OV.sub at e; cases e
    | dcT _ _ _ _ _ => unfold OV.get OV.sub at e; cases e
    | scr _ _ _ => unfold OV.get OV.sub at e; cases e
    | scrK _ _ => unfold OV.get OV.sub at e; cases e
    | opq _ _ _ => unfold OV.get OV.sub at e; cases e
end
/-- slot i holds another thing at a path -/
def putAt (ρ : Env) (i : Nat) (p : List PK) (o : OV) : Env := match ρ[i]? with
  | some (some o0) => ρ.set i (some (o0.put p o))
  | _ => ρ
section
variable {K : Fg} {pv : Pins} {F H F0 H0 : Hp} {σ : St} {ρ : Env} {fps : Fps} {a : Addr} {ho : HO} {ft ow0 : AS}
theorem Sta.change (S : Sta K pv F H σ ρ fps) {i : Nat} {p : List PK} {v : V} {o1 o2 : OV} {f : AS} (R : RepR K F H σ (own ρ fps) v (.sl i p) f) (e : (Res.sl i p).ov ρ = some o1) (c : Chg K F H a ho ft v o1 o2) (hd : Dsj ft (own ρ fps)) :
    ∃ fps', Sta K pv F (upd H a ho) σ (putAt ρ i p o2) fps' ∧ (∀ b, own (putAt ρ i p o2) fps' b → own ρ fps b ∨ ft b) ∧ own ρ fps a := by
  obtain ⟨⟨u, hu, w⟩, _⟩ := R
  unfold Res.ov at e
  cases hr : ρ[i]? with
  | none => simp only [hr] at e; cases e
  | some x =>
    cases x with
    | none => simp only [hr] at e; cases e
    | some o0 =>
      simp only [hr] at e
      obtain ⟨u', hu', ro⟩ := S.rep i o0 hr
      rw [hu] at hu'
      cases hu'
      obtain ⟨f2, g1, g2, g3⟩ := (Chg.path w e c) (fps i) ro fun b z z2 => hd b z ⟨i, o0, hr, z2⟩
      have hi : i < ρ.length := (List.getElem?_eq_some_iff.mp hr).1
      have ep : putAt ρ i p o2 = ρ.set i (some (o0.put p o2)) := by unfold putAt; rw [hr]
      have ow : own ρ fps a := ⟨i, o0, hr, g3⟩
      have nF : F a = none := (S.ow_out ow).1
      rw [ep]
      refine ⟨setF fps i f2, ⟨fun b x hx => ?_, by rw [List.length_set]; exact S.len, fun j o h => ?_, fun j j' o o' ne h h' => ?_, S.pin, S.nt, Tabs.aside S.tab (S.ow_noT ow) (S.ow_noE ow)⟩, ?_, ow⟩
      · have ne : b ≠ a := fun z => by subst z; rw [nF] at hx; cases hx
        rw [upd_ne ne]
        exact S.le b x hx
      · by_cases hj : i = j
        · subst hj
          rw [List.getElem?_set_self hi] at h
          cases h
          exact ⟨u, hu, by unfold setF; rw [if_pos rfl]; exact g1⟩
        · rw [List.getElem?_set_ne hj] at h
          obtain ⟨v1, h1, h2⟩ := S.rep j o h
          refine ⟨v1, h1, ?_⟩
          unfold setF
          rw [if_neg (fun z => hj z.symm)]
          exact h2.mono (Same.refl F) fun b p => ⟨upd_ne fun z => by subst z; exact S.dis i j _ _ hj hr h _ g3 p, (h2.out b p).1⟩
      · unfold setF
        have other : ∀ {j : Nat} {o : OV}, i ≠ j → ρ[j]? = some (some o) → ∀ b, f2 b → fps j b → False := fun {j o} hj h b p q => by
          rcases g2 b p with z | z
          · exact S.dis i j _ _ hj hr h b z q
          · exact hd b z ⟨j, o, h, q⟩
        by_cases hj : i = j
        · subst hj
          have hj' : i ≠ j' := ne
          rw [List.getElem?_set_ne hj'] at h'
          rw [if_pos rfl, if_neg (fun z => hj' z.symm)]
          exact fun b p q => other hj' h' b p q
        · rw [List.getElem?_set_ne hj] at h
          rw [if_neg (fun z => hj z.symm)]
          by_cases hj' : i = j'
          · subst hj'
            rw [if_pos rfl]
            exact fun b p q => other hj h b q p
          · rw [List.getElem?_set_ne hj'] at h'
            rw [if_neg (fun z => hj' z.symm)]
            exact S.dis j j' o o' ne h h'
      · rintro b ⟨j, o, h, q⟩
        unfold setF at q
        by_cases hj : i = j
        · subst hj
          rw [if_pos rfl] at q
          rcases g2 b q with z | z
          · exact .inl ⟨i, o0, hr, z⟩
          · exact .inr z
        · rw [List.getElem?_set_ne hj] at h
          rw [if_neg (fun z => hj z.symm)] at q
          exact .inl ⟨j, o, h, q⟩
/-- the step of such a change; ft stood aside until now -/
theorem Step.change {ow' : AS} (s : Step F0 H0 ow0 F H (orA (own ρ fps) ft)) (ha : own ρ fps a) (h : ∀ b, ow' b → own ρ fps b ∨ ft b) : Step F0 H0 ow0 F (upd H a ho) ow' :=
  ⟨s.le, fun b h1 h2 h3 => by
    obtain ⟨q1, q2, q3⟩ := s.fr b h1 h2 h3
    have ne : b ≠ a := fun z => by subst z; exact q3 (.inl ha)
    exact ⟨by rw [upd_ne ne]; exact q1, q2, fun z => q3 (h b z)⟩⟩
end

/-! ### a list of clean data, changed -/
theorem Chg.list {K : Fg} {F H : Hp} {a : Addr} {vs' : List V} {ds ds' : List PyData} (r : Reps K F vs' ds') : Chg K F H a (.lst vs') noA (.ref a) (.lst ds) (.lst ds') := fun f1 h _ => by
  cases h with
  | lst h1 n r1 f => exact ⟨f1, .lst upd_same n r f, fun b z => .inl z, (f a).mpr rfl⟩
end Dt

namespace Dt
open PySem PySem.Spec PyProof.Rows L2

/-! ### methods of an owned list -/
def MtL (K : Fg) (r : V → List V → Hp → VK → Prop) (up : List PyData → List PyData → Option (List PyData × PyData)) : Prop :=
  ∀ (F H : Hp) (l : Addr) (zs ys : List V) (ds es ds2 : List PyData) (res : PyData) (Q : VK), Same F H → H l = some (.lst zs) → Reps K F zs ds → Reps K F ys es → up ds es = some (ds2, res) → (∀ zs2 v, Reps K F zs2 ds2 → Rep K F v res → Q v (upd H l (.lst zs2))) → r (.ref l) ys H Q
def upAppend (ds es : List PyData) : Option (List PyData × PyData) := match es with
  | [d] => if ds.length < sizeLine then some (ds ++ [d], .none) else none
  | _ => none
theorem mtl_append (K : Fg) : MtL K rAppend upAppend := by
  intro F H l zs ys ds es ds2 res Q le h r ry e k
  unfold upAppend at e
  split at e
  · split at e
    · rename_i hz
      cases e
      cases ry with
      | cons r1 r2 =>
        cases r2
        exact ⟨l, zs, _, rfl, rfl, h, by rw [r.length]; exact hz, k _ _ (Reps.snoc r1 r) .none⟩
    · cases e
  · cases e
/-- the list at a place -/
def lstAt (ρ : Env) : Res → Option (Nat × List PK × List PyData)
  | .sl i p => match (Res.sl i p).ov ρ with
    | some (.lst ds) => some (i, p, ds)
    | _ => none
  | _ => none
theorem lstAt_inv {ρ : Env} {r : Res} {i : Nat} {p : List PK} {ds : List PyData} (e : lstAt ρ r = some (i, p, ds)) : r = .sl i p ∧ r.ov ρ = some (.lst ds) := by
  cases r with
  | cl d => cases e
  | fr o => cases e
  | sl j q =>
    have e : (match (Res.sl j q).ov ρ with | some (.lst ds) => some (j, q, ds) | _ => none) = some (i, p, ds) := e
    split at e
    · rename_i ds' h
      cases e
      exact ⟨rfl, h⟩
    · cases e
def gMeth (up : List PyData → List PyData → Option (List PyData × PyData)) (g : DE) (ga : DA) : DE := fun ρ Q => g ρ fun q1 r ρ1 => (lstAt ρ1 r).isSome = true ∧ ga ρ1 fun q2 rs ρ2 => (r.deep = true → q2 = true) ∧
  ok (lstAt ρ2 r) fun t => ok (clns ρ2 rs) fun es => ok (up t.2.2 es) fun u => Q false (.cl u.2) (putAt ρ2 t.1 t.2.1 (.lst u.1))
theorem tyV_list {K : Fg} {pv : Pins} {F H : Hp} {σ : St} {ρ : Env} {fps : Fps} {v : V} {r : Res} {f : AS} (S : Sta K pv F H σ ρ fps) (R : RepR K F H σ (own ρ fps) v r f) (h : (lstAt ρ r).isSome = true) : tyV K "list" v H := by
  cases e : lstAt ρ r with
  | none => rw [e] at h; cases h
  | some t =>
    obtain ⟨i, p, ds⟩ := t
    obtain ⟨rfl, ho⟩ := lstAt_inv e
    obtain ⟨fp, q, _⟩ := R.rep S ho
    cases q with
    | lst h1 n r1 f1 => exact .inl ⟨rfl, _, .of h1⟩
section
variable {X : Cx} {pv : Pins} {pos apos cpos : Pos} {o e : Expr} {es : List Expr} {g : DE} {ga : DA} {name : Str} {mid : String} {rm : V → List V → Hp → VK → Prop} {up : List PyData → List PyData → Option (List PyData × PyData)}
/-- the method's own step: the receiver and the arguments have come -/
theorem meth_core {K : Fg} {F0 H0 F H : Hp} {ow0 : AS} {σ : St} {ρ : Env} {fps : Fps} {v : V} {vs : List V} {r : Res} {rs : List Res} {f tf : AS} {i : Nat} {p : List PK} {ds es : List PyData} {u : List PyData × PyData} {Q : VK} (hm : MtL K rm up) (S : Sta K pv F H σ ρ fps) (s : Step F0 H0 ow0 F H (orA (own ρ fps) tf))
    (R : RepR K F H σ (own ρ fps) v r f) (RS : RepRs K F H σ (own ρ fps) vs rs tf) (e1 : lstAt ρ r = some (i, p, ds)) (e2 : clns ρ rs = some es) (e3 : up ds es = some u)
    (k : ∀ w F' H' fps', Sta K pv F' H' σ (putAt ρ i p (.lst u.1)) fps' → Step F0 H0 ow0 F' H' (own (putAt ρ i p (.lst u.1)) fps') → Rep K F' w u.2 → Q w H') : rm v vs H Q := by
  obtain ⟨rfl, ho⟩ := lstAt_inv e1
  obtain ⟨fp, q, _⟩ := R.rep S ho
  have G := Grow.frz (tf := tf) S.le (fun a z => (RS.out a z).1) RS.noT
  have dt : Dsj tf (own ρ fps) := fun a z w => (RS.out a z).2.2 w
  have S1 := G.sta S dt
  have s1 := (G.step s).no
  have R1 : RepR K (addF F H tf) H σ (own ρ fps) v (.sl i p) f := R
  have ra := RS.clns S G.le e2 fun a z => addF_in z
  obtain ⟨ds2, res⟩ := u
  obtain ⟨fp1, q1, _⟩ := R1.rep S1 ho
  cases q1 with
  | lst h1 n r1 f1 =>
    rename_i a zs
    refine hm (addF F H tf) H a zs vs ds es ds2 res Q G.inn h1 r1 ra e3 fun zs2 w rz rw_ => ?_
    obtain ⟨fps', S2, o2, oa⟩ := S1.change (a := a) (ho := .lst zs2) (ft := noA) R1 ho (Chg.list (ds := ds) rz) fun b z => z.elim
    refine k w _ _ fps' S2 ?_ rw_
    exact (Step.change (ft := noA) (s1.less fun c z => z.elim id fun z => z.elim) oa o2)
theorem dv_meth (pa : PlainAttrs "list") (slot : Slot "list" name mid) (hty : typeOf (.builtin mid) = pure (.type "method_descriptor")) (hr : MtR X mid rm) (hm : MtL X.K rm up) (ho : DEv X pv o g) (ha : DAv X pv (e :: es) ga)
    (hbase : attributeBase o name X.env (eval o X.env) = eval o X.env := by rfl)
    (hfew : ((backTo cpos (starEach (e :: es) X.env)).all (fun x => !x.1) && (backToKw cpos (keywordEach [] X.env)).all (fun x => x.1.isSome)
      && decide ((e :: es).length + ([] : List Keyword).length + (if ([] : List Keyword).isEmpty then 0 else 1) < 30)) = true := by rfl)
    (hline : (apos.endLine == cpos.line) = true := by rfl) (hs : starEach (e :: es) X.env = (false, eval e X.env) :: starEach es X.env := by rfl) (hplain : (backTo cpos (starEach es X.env)).any (·.1) = false := by rfl) :
    DEv X pv (.Call (.Attribute o name apos) (e :: es) [] cpos) (gMeth up g ga) :=
  PE.to (pe_bm pa slot hty hr ho ha hbase hfew hline hs hplain) fun σ H Q ⟨ρ, F, fps, Q0, S, ex, h, k⟩ => by
    refine ⟨ρ, F, fps, _, S, ex, h, fun q1 r ρ1 v H1 F1 fps1 f1 ⟨hl, h1⟩ S1 s1 e1 k1 => ⟨tyV_list S1 e1 hl, ?_⟩⟩
    refine ⟨ρ1, F1, fps1, _, S1, ex.later s1, h1, fun q2 rs ρ2 vs H2 F2 fps2 tf ⟨hd, ⟨i, p, ds⟩, a1, es', a2, u, a3, q0⟩ S2 s2 e2 k2 => ?_⟩
    obtain ⟨e1', _⟩ := e1.later s2 fun z => (k2 (hd z)).1
    have s12 : Step F H (own ρ fps) F2 H2 (orA (own ρ2 fps2) tf) := s1.no.trans s2
    exact meth_core hm S2 s12 e1' e2 a1 a2 a3 fun w F' H' fps' S3 s3 rw_ => k false _ _ w H' F' fps' noA q0 S3 (s3.less fun c z => z.elim id fun z => z.elim) ⟨rw_, fun _ z => z⟩ fun z => by cases z
end
end Dt

namespace Dt
open PySem PySem.Spec PyProof.Rows L2

/-! ### dicts with keys that are ints and texts -/
theorem key_beq (a b : Key) : (a == b) = decide (a = b) := by
  cases a with
  | inl x =>
    cases b with
    | inl y =>
      show (x == y) = _
      by_cases h : x = y
      · subst h; simp
      · rw [decide_eq_false (fun e => h (Sum.inl.inj e))]; simp [h]
    | inr y => show false = _; exact (decide_eq_false (fun e => by cases e)).symm
  | inr x =>
    cases b with
    | inl y => show false = _; exact (decide_eq_false (fun e => by cases e)).symm
    | inr y =>
      show (x == y) = _
      by_cases h : x = y
      · subst h; simp
      · rw [decide_eq_false (fun e => h (Sum.inr.inj e))]; simp [h]
instance : LawfulBEq Key where
  eq_of_beq := fun {a b} h => by rw [key_beq] at h; exact of_decide_eq_true h
  rfl := fun {a} => by rw [key_beq]; exact decide_eq_true rfl
theorem valV_lookup {κ α : Type} [DecidableEq κ] [BEq κ] [LawfulBEq κ] (k : κ) : ∀ kvs : List (κ × V), valV kvs k = kvs.lookup k
  | [] => rfl
  | (k1, v) :: r => by
    rw [List.lookup_cons]
    by_cases h : k1 = k
    · subst h
      rw [valV_pos rfl]
      simp
    · rw [valV_neg (p := (k1, v)) h, valV_lookup (α := α) k r]
      have : (k == k1) = false := by
        cases e : k == k1 with
        | false => rfl
        | true => exact absurd (eq_of_beq e).symm h
      rw [this]
def keyD : PyData → Option Key
  | .int i => some (.inl i)
  | .str x => some (.inr x)
  | _ => none
/-- what stands under a key -/
def dAt (ρ : Env) (r : Res) (k : Key) : Option Res := match r with
  | .sl i p => match (Res.sl i p).ov ρ with
    | some (.dct kvs) => match kvs.lookup k with
      | some (.fr d) => some (.cl d)
      | some _ => some (.sl i (p ++ [.key k]))
      | none => none
    | _ => none
  | _ => none
theorem Walk.snoc {H : Hp} {k : Key} {a : Addr} {kvs : List (Key × V)} {w : V} : ∀ {ps : List PK} {u : V}, Walk H u ps (.ref a) → H a = some (.dK kvs) → kvs.lookup k = some w → Walk H u (ps ++ [.key k]) w
  | [], u, h, e, l => by
    have h : V.ref a = u := h
    subst h
    exact ⟨a, kvs, w, rfl, e, l, rfl⟩
  | .key _ :: ps, u, ⟨b, kvs1, w1, h1, h2, h3, h4⟩, e, l => ⟨b, kvs1, w1, h1, h2, h3, Walk.snoc h4 e l⟩
  | .att _ :: ps, u, ⟨b, C, dx, fs, w1, h1, h2, h3, h4⟩, e, l => ⟨b, C, dx, fs, w1, h1, h2, h3, Walk.snoc h4 e l⟩
def gDGet (gd gk : DE) : DE := fun ρ Q => gSeq2 gd gk ρ fun q r1 r2 ρ2 => ok (r2.cln ρ2) fun d => ok (keyD d) fun k => ok (dAt ρ2 r1 k) fun res => Q q res ρ2
section
variable {X : Cx} {pv : Pins} {pos pos' tpos : Pos} {o i e : Expr} {gd gk gv : DE}
/-! ### d[k] = v -/
def putKO (kvs : List (Key × OV)) (k : Key) (o : OV) : List (Key × OV) := if (kvs.any fun kv => decide (kv.1 = k)) = true then Dt.repl k o kvs else kvs ++ [(k, o)]
def ndK {α : Type} (kvs : List (Key × α)) : Bool := match kvs with
  | [] => true
  | (k, _) :: r => !(r.any fun kv => decide (kv.1 = k)) && ndK r
theorem RepOs.any {K : Fg} {F H : Hp} {k : Key} : ∀ {zs : List (Key × V)} {os : List (Key × OV)} {f : AS}, RepOs K F H zs os f → (zs.any fun kv => decide (kv.1 = k)) = (os.any fun kv => decide (kv.1 = k))
  | _, _, _, .nil _ => rfl
  | _, _, _, .cons h r x f => by rw [List.any_cons, List.any_cons, RepOs.any r]
theorem RepOs.snoc {K : Fg} {F H : Hp} {k : Key} {v : V} {o : OV} {ft : AS} (h : RepO K F H v o ft) : ∀ {zs : List (Key × V)} {os : List (Key × OV)} {f : AS}, RepOs K F H zs os f → Dsj ft f → RepOs K F H (zs ++ [(k, v)]) (os ++ [(k, o)]) (fun b => f b ∨ ft b)
  | _, _, f, .nil n, _ => .cons h (.nil (fp := noA) fun _ z => z) (fun a _ z => z) fun b => ⟨fun z => z.elim (fun z => (n b z).elim) .inl, fun z => z.elim .inr fun z => z.elim⟩
  | _, _, f, .cons (fp1 := f1) (fp2 := f2) h1 r x e, d => .cons h1 (RepOs.snoc h r fun b p q => d b p ((e b).mpr (.inr q))) (fun b p q => q.elim (fun q => x b p q) fun q => d b q ((e b).mpr (.inl p))) fun b =>
    ⟨fun z => z.elim (fun z => ((e b).mp z).elim .inl fun z => .inr (.inl z)) fun z => .inr (.inr z), fun z => z.elim (fun z => .inl ((e b).mpr (.inl z))) fun z => z.elim (fun z => .inl ((e b).mpr (.inr z))) .inr⟩
theorem map_none {k : Key} {v : V} : ∀ {zs : List (Key × V)}, (zs.any fun kv => decide (kv.1 = k)) = false → zs.map (fun kv => if kv.1 = k then (kv.1, v) else kv) = zs
  | [], _ => rfl
  | p :: r, h => by
    rw [List.any_cons, Bool.or_eq_false_iff] at h
    rw [List.map_cons, map_none h.2, if_neg (of_decide_eq_false h.1)]
/-- the new list of pairs -/
theorem RepOs.put {K : Fg} {F H : Hp} {k : Key} {v : V} {o : OV} {ft : AS} (h : RepO K F H v o ft) : ∀ {zs : List (Key × V)} {os : List (Key × OV)} {f : AS}, RepOs K F H zs os f → Dsj ft f → ndK os = true → (os.any fun kv => decide (kv.1 = k)) = true →
    ∃ f', RepOs K F H (zs.map fun kv => if kv.1 = k then (kv.1, v) else kv) (Dt.repl k o os) f' ∧ ∀ b, f' b → f b ∨ ft b
  | _, _, _, .nil _, _, _, hk => by cases hk
  | _, _, f, .cons (k := k1) (v := v1) (o := o1) (kvs := zs) (os := os) (fp1 := f1) (fp2 := f2) h1 r x e, d, nd, hk => by
    have nd2 := Bool.and_eq_true_iff.mp nd
    by_cases hkk : k1 = k
    · subst hkk
      have hno : (os.any fun kv => decide (kv.1 = k1)) = false := by
        cases q : os.any fun kv => decide (kv.1 = k1) with
        | false => rfl
        | true => rw [q] at nd2; cases nd2.1
      have hz : (zs.any fun kv => decide (kv.1 = k1)) = false := by rw [RepOs.any r]; exact hno
      refine ⟨fun b => ft b ∨ f2 b, ?_, fun b z => z.elim .inr fun z => .inl ((e b).mpr (.inr z))⟩
      rw [List.map_cons, map_none hz, if_pos rfl]
      have : Dt.repl k1 o ((k1, o1) :: os) = (k1, o) :: os := by
        show (if (k1 == k1) = true then _ else _) = _
        rw [if_pos (by simp)]
      rw [this]
      exact .cons h r (fun b p q => d b p ((e b).mpr (.inr q))) fun b => Iff.rfl
    · rw [List.any_cons, decide_eq_false hkk, Bool.false_or] at hk
      obtain ⟨f', g1, g2⟩ := RepOs.put h r (fun b p q => d b p ((e b).mpr (.inr q))) nd2.2 hk
      refine ⟨fun b => f1 b ∨ f' b, ?_, fun b z => z.elim (fun z => .inl ((e b).mpr (.inl z))) fun z => (g2 b z).elim (fun z => .inl ((e b).mpr (.inr z))) .inr⟩
      rw [List.map_cons, if_neg hkk]
      have : Dt.repl k o ((k1, o1) :: os) = (k1, o1) :: Dt.repl k o os := by
        show (if (k == k1) = true then _ else _) = _
        rw [if_neg (by simp; exact fun z => hkk z.symm)]
      rw [this]
      exact .cons h1 g1 (fun b p q => (g2 b q).elim (fun q => x b p q) fun q => d b q ((e b).mpr (.inl p))) fun b => Iff.rfl
/-- the dict at a place -/
def dctAt (ρ : Env) : Res → Option (Nat × List PK × List (Key × OV))
  | .sl i p => match (Res.sl i p).ov ρ with
    | some (.dct ds) => some (i, p, ds)
    | _ => none
  | _ => none
def gDPut (gd gk gv : DE) : DS := fun D ρ => gv ρ fun _ rv ρ1 => gSeq2 gd gk ρ1 fun q rd rk ρ3 => (rv.deep = false ∨ q = true) ∧ ok (rk.cln ρ3) fun dk => ok (keyD dk) fun k => ok (keepR ρ3 rv) fun o => ok (dctAt ρ3 rd) fun t => (ndK t.2.2 = true ∧ t.2.2.length < sizeLine) ∧
  D.nx (putAt ρ3 t.1 t.2.1 (.dct (putKO t.2.2 k o)))
end
end Dt

namespace Dt
open PySem PySem.Spec PyProof.Rows L2

/-! ### a dict's display, its keys written -/
def gPairs : List (Key × DE) → Env → (List (Key × Res) → Env → Prop) → Prop
  | [], ρ, Q => Q [] ρ
  | (k, g) :: r, ρ, Q => g ρ fun _ v ρ1 => v.deep = false ∧ gPairs r ρ1 fun ps ρ2 => Q ((k, v) :: ps) ρ2
def keeps (ρ : Env) : List (Key × Res) → Option (List (Key × OV))
  | [] => some []
  | (k, r) :: rs => (keepR ρ r).bind fun o => (keeps ρ rs).bind fun os => some ((k, o) :: os)
def gDisp (kgs : List (Key × DE)) : DE := fun ρ Q => gPairs kgs ρ fun ps ρ2 => ok (keeps ρ2 ps) fun os => (ndK os = true ∧ os.length ≤ 15) ∧ Q false (.fr (.dct os)) ρ2
/-- the pairs' values -/
def RepPs (K : Fg) (F H : Hp) (σ : St) (ow : AS) : List (Key × V) → List (Key × Res) → AS → Prop
  | [], [], f => ∀ a, ¬ f a
  | (k, v) :: vs, (k', r) :: rs, f => k = k' ∧ ∃ f1 f2, RepR K F H σ ow v r f1 ∧ RepPs K F H σ ow vs rs f2 ∧ Dsj f1 f2 ∧ ∀ a, f a ↔ f1 a ∨ f2 a
  | _, _, _ => False
theorem RepPs.keeps {K : Fg} {pv : Pins} {F H : Hp} {σ : St} {ρ : Env} {fps : Fps} (S : Sta K pv F H σ ρ fps) : ∀ {vs : List (Key × V)} {rs : List (Key × Res)} {os : List (Key × OV)} {f : AS}, RepPs K F H σ (own ρ fps) vs rs f → Dt.keeps ρ rs = some os → RepOs K F H vs os f
  | [], [], os, f, h, e => by
    have e : some [] = some os := e
    cases e
    exact .nil h
  | (k, v) :: vs, (k', r) :: rs, os, f, ⟨hk, f1, f2, h1, h2, h3, h4⟩, e => by
    subst hk
    have e : ((keepR ρ r).bind fun o => (Dt.keeps ρ rs).bind fun os => some ((k, o) :: os)) = some os := e
    cases e1 : keepR ρ r with
    | none => rw [e1] at e; cases e
    | some o =>
      rw [e1] at e
      cases e2 : Dt.keeps ρ rs with
      | none => rw [e2] at e; cases e
      | some os' =>
        rw [e2] at e
        cases e
        exact .cons (keepR_rep S h1 e1) (RepPs.keeps S h2 e2) h3 h4
  | [], _ :: _, _, _, h, _ => h.elim
  | _ :: _, [], _, _, h, _ => h.elim
theorem RepPs.out {K : Fg} {F H : Hp} {σ : St} {ow : AS} : ∀ {vs : List (Key × V)} {rs : List (Key × Res)} {f : AS}, RepPs K F H σ ow vs rs f → ∀ a, f a → F a = none ∧ H a ≠ none ∧ ¬ ow a
  | [], [], _, h, a, p => (h a p).elim
  | (k, v) :: vs, (k', r) :: rs, f, ⟨_, f1, f2, h1, h2, _, e⟩, a, p => by
    rcases (e a).mp p with p | p
    · obtain ⟨q1, q2, q3, _⟩ := h1.out a p
      exact ⟨q1, q2, q3⟩
    · exact RepPs.out h2 a p
  | [], _ :: _, _, h, _, _ => h.elim
  | _ :: _, [], _, h, _, _ => h.elim
/-- the written keys -/
inductive PKs (X : Cx) (pv : Pins) : List (Option Expr) → List Expr → List (Key × DE) → Prop
  | nil : PKs X pv [] [] []
  | cons {e v : Expr} {k : Key} {g : DE} {ks : List (Option Expr)} {vs : List Expr} {kgs : List (Key × DE)} : PE X e (tC (kV k)) → DEv X pv v g → PKs X pv ks vs kgs → PKs X pv (some e :: ks) (v :: vs) ((k, g) :: kgs)
def trsOf (K : Fg) (pv : Pins) : List (Key × DE) → List (TE × TE)
  | [] => []
  | (k, g) :: r => (tC (kV k), lift K pv g) :: trsOf K pv r
theorem PKs.pps {X : Cx} {pv : Pins} {pos : Pos} : ∀ {ks : List (Option Expr)} {vs : List Expr} {kgs : List (Key × DE)}, PKs X pv ks vs kgs → PPs X pos ks vs (trsOf X.K pv kgs)
  | _, _, _, .nil => pps_nil
  | _, _, _, .cons h1 h2 h3 => pps_cons h1 h2 (PKs.pps h3)
theorem pairs_lift {K : Fg} {pv : Pins} : ∀ {kgs : List (Key × DE)} {F H : Hp} {σ : St} {ρ : Env} {fps : Fps} {Q0 : List (Key × Res) → Env → Prop} {R : List (V × V) → Hp → Prop}, Sta K pv F H σ ρ fps → Exq K pv F H (own ρ fps) → gPairs kgs ρ Q0 →
    (∀ ps ρ' vs H' F' fps' f, Q0 ps ρ' → Sta K pv F' H' σ ρ' fps' → Step F H (own ρ fps) F' H' (orA (own ρ' fps') f) → RepPs K F' H' σ (own ρ' fps') vs ps f → R (vs.map fun kv => (kV kv.1, kv.2)) H') → tPairs (trsOf K pv kgs) σ H R
  | [], F, H, σ, ρ, fps, Q0, R, S, ex, h, k => k [] ρ [] H F fps noA h S S.same (fun _ z => z)
  | (ky, g) :: r, F, H, σ, ρ, fps, Q0, R, S, ex, h, k => by
    show lift K pv g σ H _
    refine ⟨ρ, F, fps, _, S, ex, h, fun q v ρ1 w H1 F1 fps1 f1 ⟨hd, h1⟩ S1 s1 e1 _ => ?_⟩
    refine pairs_lift S1 (ex.later s1) h1 fun ps ρ2 vs H2 F2 fps2 f2 q2 S2 s2 e2 => ?_
    obtain ⟨e1', dj⟩ := e1.later s2 fun z => by rw [hd] at z; cases z
    exact k ((ky, v) :: ps) ρ2 ((ky, w) :: vs) H2 F2 fps2 (orA f1 f2) q2 S2 (s1.aside s2) ⟨rfl, f1, f2, e1', e2, dj, fun a => Iff.rfl⟩
theorem putK_new {kvs : List (Key × V)} {k : Key} {v : V} (h : (kvs.any fun kv => decide (kv.1 = k)) = false) : putK kvs k v = kvs ++ [(k, v)] := by
  unfold putK
  rw [if_neg (by rw [h]; exact Bool.false_ne_true)]
theorem mergeK_nd : ∀ (more kvs : List (Key × V)), ndK more = true → (∀ p ∈ more, (kvs.any fun kv => decide (kv.1 = p.1)) = false) → mergeK kvs more = kvs ++ more
  | [], kvs, _, _ => by show kvs = _; simp
  | (k, v) :: r, kvs, nd, h => by
    have nd2 := Bool.and_eq_true_iff.mp nd
    show mergeK (putK kvs k v) r = _
    rw [putK_new (h (k, v) (List.mem_cons_self ..))]
    rw [mergeK_nd r (kvs ++ [(k, v)]) nd2.2 fun p hp => ?_]
    · simp
    · rw [List.any_append, h p (List.mem_cons_of_mem _ hp), Bool.false_or, List.any_cons, List.any_nil, Bool.or_false]
      refine decide_eq_false fun e => ?_
      have := nd2.1
      have hn : (r.any fun kv => decide (kv.1 = k)) = false := by
        cases q : r.any fun kv => decide (kv.1 = k) with
        | false => rfl
        | true => rw [q] at this; cases this
      have := List.any_eq_false.mp hn p hp
      exact this (decide_eq_true e.symm)
theorem RepOs.keys {K : Fg} {F H : Hp} : ∀ {zs : List (Key × V)} {os : List (Key × OV)} {f : AS}, RepOs K F H zs os f → zs.map (·.1) = os.map (·.1)
  | _, _, _, .nil _ => rfl
  | _, _, _, .cons h r x f => by rw [List.map_cons, List.map_cons, RepOs.keys r]
section
variable {X : Cx} {pv : Pins} {pos : Pos} {keys : List (Option Expr)} {values : List Expr} {kgs : List (Key × DE)}
end

/-! ### subscripts of lists, tuples, texts -/
def ixR (ρ : Env) (r1 r2 : Res) : Option Res := match r1.ov ρ, r2.ov ρ with
  | some (.fr (.str z)), some (.fr (.int i)) => if z.length ≤ sizeLine then (atI z.cps.toList i).map fun c => .cl (.str ⟨#[c]⟩) else none
  | some o, some (.fr (.int i)) => o.seq.bind fun p => (atI p.2 i).map Res.cl
  | _, _ => none
theorem Reps.atI {K : Fg} {F : Hp} {vs : List V} {ds : List PyData} {i : Int} {d : PyData} (r : Reps K F vs ds) (e : L2.atI ds i = some d) : ∃ v, L2.atI vs i = some v ∧ Rep K F v d := by
  unfold L2.atI at e ⊢
  rw [r.length]
  cases h : ixN ds.length i with
  | none => rw [h] at e; cases e
  | some j =>
    rw [h] at e
    have e : ds[j]? = some d := e
    obtain ⟨x, hx⟩ := r.has (List.getElem?_eq_some_iff.mp e).1
    exact ⟨x, hx, r.get e hx⟩
theorem ix_ok (K : Fg) : Op2 K (rIx K) ixR := by
  intro pv F H σ ρ fps x y r1 r2 res f1 f2 Q S R1 R2 d e k
  unfold ixR at e
  have gen : ∀ {o : OV} {i : Int}, r1.ov ρ = some o → r2.ov ρ = some (.fr (.int i)) → (o.seq.bind fun p => (L2.atI p.2 i).map Res.cl) = some res → rIx K x y H Q := fun {o i} e1 e2 e => by
    cases hs : o.seq with
    | none => rw [hs] at e; cases e
    | some p =>
      obtain ⟨b, ds⟩ := p
      rw [hs] at e
      have e : (L2.atI ds i).map Res.cl = some res := e
      cases ha : L2.atI ds i with
      | none => rw [ha] at e; cases e
      | some d =>
        rw [ha] at e
        cases e
        have ey := (R2.frD S e2).intI
        obtain ⟨fp, q, _⟩ := R1.rep S e1
        cases b with
        | true =>
          obtain ⟨a, vs, rfl, h1, h2⟩ := q.seqL S.le hs
          obtain ⟨v, g1, g2⟩ := h2.atI ha
          exact .inl ⟨a, vs, i, v, rfl, ey, h1, g1, k v F H noA (Grow.refl S.le) ⟨g2, fun _ z => z⟩⟩
        | false =>
          obtain ⟨a, vs, rfl, h1, h2⟩ := q.seqT S.le hs
          obtain ⟨v, g1, g2⟩ := h2.atI ha
          exact .inr (.inl ⟨a, vs, i, v, rfl, ey, Same.sqT S.le h1, g1, k v F H noA (Grow.refl S.le) ⟨g2, fun _ z => z⟩⟩)
  split at e
  · rename_i z i e1 e2
    split at e
    · rename_i hz
      cases ha : L2.atI z.cps.toList i with
      | none => rw [ha] at e; cases e
      | some c =>
        rw [ha] at e
        cases e
        exact .inr (.inr ⟨z, i, c, (R1.frD S e1).strI, (R2.frD S e2).intI, hz, ha, k _ F H noA (Grow.refl S.le) ⟨.str _, fun _ z => z⟩⟩)
    · cases e
  · rename_i o i e1 e2 e3
    exact gen e2 e3 e
  · cases e
/-! ### slices -/
def cutD {α : Type} (xs : List α) (lo hi : Option Int) : List α := (xs.drop (HT.sIx xs.length 0 lo)).take (HT.sIx xs.length xs.length hi - HT.sIx xs.length 0 lo)
theorem Reps.drop {K : Fg} {F : Hp} : ∀ {vs : List V} {ds : List PyData} (n : Nat), Reps K F vs ds → Reps K F (vs.drop n) (ds.drop n)
  | _, _, 0, r => r
  | _, _, _ + 1, .nil => .nil
  | _, _, n + 1, .cons _ t => Reps.drop n t
theorem Reps.take {K : Fg} {F : Hp} : ∀ {vs : List V} {ds : List PyData} (n : Nat), Reps K F vs ds → Reps K F (vs.take n) (ds.take n)
  | _, _, 0, _ => .nil
  | _, _, _ + 1, .nil => .nil
  | _, _, n + 1, .cons h t => .cons h (Reps.take n t)
theorem Reps.cut {K : Fg} {F : Hp} {vs : List V} {ds : List PyData} (r : Reps K F vs ds) (lo hi : Option Int) : Reps K F (cutV vs lo hi) (cutD ds lo hi) := by
  unfold cutV cutD
  rw [r.length]
  exact (r.drop _).take _
/-- t[lo:hi] -/
def rSlP (K : Fg) : V → Option Int → Option Int → Hp → VK → Prop := fun x lo hi H Q => ∃ a xs, x = .ref a ∧ SqT K H a xs ∧
  (HT.sIx xs.length 0 lo = 0 ∧ HT.sIx xs.length xs.length hi = xs.length → Q (.ref a) H) ∧ (¬ (HT.sIx xs.length 0 lo = 0 ∧ HT.sIx xs.length xs.length hi = xs.length) → ∀ (p : Addr) (o : Obj), o.dict = none → H p = none → Q (.ref p) (upd H p (.frz o (.tup (cutV xs lo hi)))))
theorem sl_tupP {X : Cx} : SlR X (rSlP X.K) := by
  intro pins s σ H x v vl vu lo hi sl Q I rx hs pl pu h
  obtain ⟨a, xs, rfl, hx, q1, q2⟩ := h
  cases rx
  obtain ⟨its, r, ht, hz⟩ := I.tuple hx
  have hlen : its.toArray.size = xs.length := by rw [List.size_toArray]; exact r.length.symm
  refine ⟨"tuple", _, PyProof.Rows.slot_tuple_getitem.lookup, ht.typeIs, ?_⟩
  by_cases hw : HT.sIx xs.length 0 lo = 0 ∧ HT.sIx xs.length xs.length hi = xs.length
  · exact getItem_tuple_whole ht hs pl pu (by rw [hlen]; exact hw) ⟨.ref a, H, I, rfl, q1 hw⟩
  · refine HT.getItem_tuple_cut ht hs pl pu (by rw [hlen]; exact hw) ?_ (by rw [hlen]; exact hz)
    rw [hlen]
    refine ⟨.ref s.heap.objs.size, _, I.laid (t' := s.toks) (o := .frz _ (.tup (cutV xs lo hi))) (fun b ob q => Heap.get?_push_of_some _ q) (Nat.le_refl _) ⟨Heap.get?_push_size _ rfl, Nat.le_trans (cutV_length xs lo hi) hz, _, (r.drop (HT.sIx xs.length 0 lo)).take (HT.sIx xs.length xs.length hi - HT.sIx xs.length 0 lo), IsTup.new _ _⟩, rfl, q2 hw _ _ rfl (I.hok.fresh (Nat.le_refl _))⟩
def rSlAll (K : Fg) : V → Option Int → Option Int → Hp → VK → Prop := fun x lo hi H Q => rSlL K x lo hi H Q ∨ rSlP K x lo hi H Q
theorem sl_all {X : Cx} : SlR X (rSlAll X.K) := sl_list.or sl_tupP
abbrev DO := Env → (Bool → Option Int → Env → Prop) → Prop
def liftO (K : Fg) (pv : Pins) (g : DO) : TO := fun σ H Q => ∃ (ρ : Env) (F : Hp) (fps : Fps) (Q0 : Bool → Option Int → Env → Prop), Sta K pv F H σ ρ fps ∧ Exq K pv F H (own ρ fps) ∧ g ρ Q0 ∧
  ∀ q i ρ' H' F' fps', Q0 q i ρ' → Sta K pv F' H' σ ρ' fps' → Step F H (own ρ fps) F' H' (own ρ' fps') → (q = true → LamX.ExtN H H' ∧ ρ' = ρ ∧ fps' = fps) → Q i H'
def DOv (X : Cx) (pv : Pins) (e : Option Expr) (g : DO) : Prop := PO X e (liftO X.K pv g)
theorem PO.to {X : Cx} {e : Option Expr} {t t' : TO} (h : PO X e t) (i : ∀ σ H Q, t' σ H Q → t σ H Q) : PO X e t' := ⟨fun pins s σ H Q I q => h.run pins s σ H Q I (i σ H Q q)⟩
def gNoPart : DO := fun ρ Q => Q true none ρ
def gPart (g : DE) : DO := fun ρ Q => g ρ fun q r ρ' => ok (asI r) fun i => Q q (some i) ρ'
def sliceO : OV → Option Int → Option Int → Option Res := fun o lo hi => match o.seq with
  | some (true, ds) => some (.fr (.lst (cutD ds lo hi)))
  | some (false, ds) => some (.cl (.tuple (cutD ds lo hi)))
  | none => none
def gSlice (g : DE) (gl gh : DO) : DE := fun ρ Q => g ρ fun q r ρ1 => gl ρ1 fun q1 lo ρ2 => gh ρ2 fun q2 hi ρ3 => (r.deep = true → (q1 && q2) = true) ∧ ok (r.ov ρ3) fun o => ok (sliceO o lo hi) fun res => Q (q && (q1 && q2)) res ρ3
section
variable {X : Cx} {pv : Pins} {pos p2 : Pos} {e : Expr} {g : DE} {gl gh : DO} {lo hi : Option Expr}
theorem do_none : DOv X pv none gNoPart := PO.to po_none fun σ H Q ⟨ρ, F, fps, Q0, S, ex, h, k⟩ => k true none ρ H F fps h S (Step.refl F H _) fun _ => ⟨LamX.ExtN.refl H, rfl, rfl⟩
theorem do_some {e : Expr} {g : DE} (h : DEv X pv e g) : DOv X pv (some e) (gPart g) := PO.to (po_some h) fun σ H Q ⟨ρ, F, fps, Q0, S, ex, h, k⟩ =>
  ⟨ρ, F, fps, _, S, ex, h, fun q r ρ' v H' F' fps' f ⟨i, e, q0⟩ S' s er kq => ⟨i, (asI_rep er e).1, k q (some i) ρ' H' F' fps' q0 S' s.no kq⟩⟩
theorem dv_ix {a b : Expr} {g1 g2 : DE} (ha : DEv X pv a g1) (hb : DEv X pv b g2) (hs : PlainIxT b) : DEv X pv (.Subscript a b pos) (gOp ixR g1 g2) := PE.to (pe_ix ix_seq ha hb hs) fun _ _ _ w => (ix_ok X.K).lift w
theorem dv_slice (he : DEv X pv e g) (hl : DOv X pv lo gl) (hh : DOv X pv hi gh) : DEv X pv (.Subscript e (.Slice lo hi none p2) pos) (gSlice g gl gh) :=
  PE.to (pe_slice sl_all he hl hh) fun σ H Q ⟨ρ, F, fps, Q0, S, ex, h, k⟩ => by
    refine ⟨ρ, F, fps, _, S, ex, h, fun q r ρ1 v H1 F1 fps1 f h1 S1 s1 e1 k1 => ?_⟩
    refine ⟨ρ1, F1, fps1, _, S1, ex.later s1, h1, fun q1 lo ρ2 H2 F2 fps2 h2 S2 s2 k2 => ?_⟩
    refine ⟨ρ2, F2, fps2, _, S2, (ex.later s1).latr s2, h2, fun q2 hi ρ3 H3 F3 fps3 ⟨hd, o, ho, res, hr, q0⟩ S3 s3 k3 => ?_⟩
    have s23 := s2.trans s3
    obtain ⟨e1', _⟩ := e1.later (f2 := noA) (ow2 := own ρ3 fps3) (s23.less fun c z => z.elim (fun z => z) fun z => z.elim) fun z => (quiet_trans k2 k3 (hd z)).1
    have s13 : Step F H (own ρ fps) F3 H3 (orA (own ρ3 fps3) (orA f noA)) := s1.aside (s23.less fun c z => z.elim (fun z => z) fun z => z.elim)
    have quiet : (q && (q1 && q2)) = true → LamX.ExtN H H3 ∧ ρ3 = ρ ∧ fps3 = fps := fun z => quiet_trans k1 (quiet_trans k2 k3) z
    have fin : ∀ {w : V} {F4 H4 : Hp} {f4 : AS}, Grow F3 H3 (orA f noA) F4 H4 f4 → RepR X.K F4 H4 σ (own ρ3 fps3) w res f4 → Q w H4 := fun {w F4 H4 f4} G er => by
      have dt : Dsj (orA f noA) (own ρ3 fps3) := fun a z p => z.elim (fun z => (e1'.out a z).2.2.1 p) fun z => z.elim
      exact k _ res ρ3 w H4 F4 fps3 f4 q0 (G.sta S3 dt) (G.step s13) er fun z => by
        obtain ⟨a1, a2, a3⟩ := quiet z
        exact ⟨a1.trans (.of G.hh), a2, a3⟩
    obtain ⟨fp, qo, _⟩ := e1'.rep S3 ho
    unfold sliceO at hr
    split at hr
    · rename_i ds hs
      cases hr
      obtain ⟨a, vs, rfl, g1, g2⟩ := qo.seqL S3.le hs
      exact .inl ⟨a, vs, rfl, g1, fun p hp => fin (Grow.ownedT S3.le hp) (RepR.newL S3 hp (g2.cut lo hi))⟩
    · rename_i ds hs
      cases hr
      obtain ⟨a, vs, rfl, g1, g2⟩ := qo.seqP S3.le hs
      refine .inr ⟨a, vs, rfl, Same.sqT S3.le g1.t, fun z => fin (Grow.refl S3.le) ⟨?_, fun _ z => z⟩, fun _ p o hd2 hp => fin (Grow.frozenT S3.le hp) (RepR.newT S3.le hd2 hp (g2.cut lo hi))⟩
      have : cutD ds lo hi = ds := by
        unfold cutD
        rw [← g2.length, z.1, z.2, List.drop_zero, Nat.sub_zero, g2.length, List.take_length]
      rw [this]
      exact .tup g1 g2
    · cases hr
end
end Dt

namespace Dt
open PySem PySem.Spec PyProof.Rows L2

/-! ### repr of data -/
def Shw (P : Program) (w : World) (h : Heap) (u : Value) (d : PyData) : Prop := (∃ as, Reads h u d as) ∧ ∃ bs, ReadAtMost h d.depth bs ∧ ReprK P w bs h d.depth u d.shown
theorem Shw.leaf {P : Program} {w : World} {h : Heap} {u : Value} {d : PyData} (r : Reads h u d []) (k : ReprIs P w u d.shown) : Shw P w h u d := ⟨⟨_, r⟩, [], (fun _ z => nomatch z), .of_is k _ _ _⟩
section
variable {X : Cx} {pins : List (Addr × Obj)} {σ : L2.St} {H : Hp} {s : Shared}
/-- the object of a list, a tuple -/
theorem obj_list (I : Inv X pins σ H s) {a : Addr} {vs : List V} (h : H a = some (.lst vs)) : ∃ (o : Obj) (its : List Value) (n : Nat), s.heap.get? a = some o ∧ o.cls = .type "list" ∧ o.data = .seq its.toArray n ∧ Vals vs its := by
  obtain ⟨its, r, ⟨o, n, e, c, _, d⟩, _⟩ := I.list (.of h)
  exact ⟨o, its, n, e, c, d, r⟩
theorem obj_tup (I : Inv X pins σ H s) {a : Addr} {vs : List V} (h : SqT X.K H a vs) : ∃ (o : Obj) (its : List Value) (n : Nat), s.heap.get? a = some o ∧ o.cls = .type "tuple" ∧ o.data = .seq its.toArray n ∧ Vals vs its := by
  obtain ⟨its, r, ⟨o, e, c, n, d⟩, _⟩ := I.tuple h
  exact ⟨o, its, n, e, c, d, r⟩
mutual
theorem Rep.shw (I : Inv X pins σ H s) : ∀ {v : V} {d : PyData}, Rep X.K H v d → ∀ {u : Value}, RelV v u → d.showable = true → d.shown.length ≤ sizeLine → Shw X.prog X.w s.heap u d
  | _, _, .none, u, r, _, _ => by
    have r : u = Value.none := r
    subst r
    exact .leaf .none (by simp only [PyData.shown]; exact ReprIs.none)
  | _, _, .bool b, u, r, _, _ => by
    have r : u = Value.bool b := r
    subst r
    exact .leaf (.bool b) (by simp only [PyData.shown]; exact ReprIs.bool b)
  | _, _, .int i, u, r, hs, _ => by
    obtain ⟨t, r⟩ : ∃ t, u = Value.int i t := r
    subst r
    exact .leaf (.int i t) (by simp only [PyData.shown]; exact ReprIs.int t (by simpa [PyData.showable] using hs))
  | _, _, .str x, u, r, _, hz => by
    obtain ⟨t, r⟩ : ∃ t, u = Value.str x t := r
    subst r
    exact .leaf (.str x t) (by simp only [PyData.shown] at hz ⊢; exact ReprIs.str x t hz)
  | _, _, .lst (a := a) (vs := vs) (ds := ds) h rs, u, r, hs, hz => by
    have r : u = Value.ref a := r
    subst r
    have hz' : (listText (PyData.shownAll ds)).length ≤ sizeLine := by simpa only [PyData.shown] using hz
    obtain ⟨o, its, n, e1, e2, e3, rv⟩ := obj_list I h
    obtain ⟨⟨as, ra⟩, bs, hb, hk⟩ := Reps.shw I rs rv (by simpa only [PyData.showable] using hs) fun t ht => Nat.le_trans (listText_mem_le ht) hz'
    have rd : Reads s.heap (.ref a) (.list ds) (a :: as) := .list e1 e2 e3 (by simpa using ra)
    have hna : a ∉ bs := not_mem_of_deeper rd (by simp only [PyData.depth]; omega) hb
    refine ⟨⟨_, rd⟩, a :: bs, ReadAtMost.cons rd (by simp only [PyData.depth]; omega) hb, ?_⟩
    simp only [PyData.depth, PyData.shown]
    cases its with
    | nil =>
      cases ra
      simp only [PyData.shownAll, listText_nil]
      exact ReprK.listEmpty e1 e2 e3
    | cons y ys => exact ReprK.list e1 e2 e3 hna (by simpa using hk.length_eq) fun i z e => hk.item i z (by simpa using e)
  | _, _, .tup (a := a) (vs := vs) (ds := ds) h rs, u, r, hs, hz => by
    have r : u = Value.ref a := r
    subst r
    have hz' : (tupleText (PyData.shownAll ds)).length ≤ sizeLine := by simpa only [PyData.shown] using hz
    obtain ⟨o, its, n, e1, e2, e3, rv⟩ := obj_tup I h.t
    obtain ⟨⟨as, ra⟩, bs, hb, hk⟩ := Reps.shw I rs rv (by simpa only [PyData.showable] using hs) fun t ht => Nat.le_trans (tupleText_mem_le ht) hz'
    have rd : Reads s.heap (.ref a) (.tuple ds) as := .tuple e1 e2 e3 (by simpa using ra)
    have hna : a ∉ bs := not_mem_of_deeper rd (by simp only [PyData.depth]; omega) hb
    refine ⟨⟨_, rd⟩, a :: bs, ReadAtMost.cons rd (by simp only [PyData.depth]; omega) hb, ?_⟩
    simp only [PyData.depth, PyData.shown]
    exact ReprK.tuple e1 e2 e3 hna (by simpa using hk)
  | _, _, .dct (a := a) (kvs := kvs) (ds := ds) h rs, u, r, hs, hz => by
    have r : u = Value.ref a := r
    subst r
    have hz' : (dictText (PyData.shownKv ds)).length ≤ sizeLine := by simpa only [PyData.shown] using hz
    obtain ⟨_, hsys, vs, kv, o, es, ep, e1, ex, e3, _, ps, _⟩ := dk_of I.hok h
    obtain ⟨⟨as, ra⟩, ⟨as2, ra2⟩, bs, hb, hk⟩ := RepKV.shw I rs kv ps (by simpa only [PyData.showable] using hs) fun t ht => Nat.le_trans (dictText_mem_le ht) hz'
    have rd : Reads s.heap (.ref a) (.dict ds) (a :: as ++ as2) := .dict e1 ex.1 e3 ra ra2
    have hna : a ∉ bs := not_mem_of_deeper rd (by simp only [PyData.depth]; omega) hb
    refine ⟨⟨_, rd⟩, a :: bs, ReadAtMost.cons rd (by simp only [PyData.depth]; omega) hb, ?_⟩
    simp only [PyData.depth, PyData.shown]
    exact ReprK.dict e1 ex.1 e3 hsys hna hk
theorem Reps.shw (I : Inv X pins σ H s) : ∀ {vs : List V} {ds : List PyData}, Reps X.K H vs ds → ∀ {us : List Value}, Vals vs us → PyData.showableAll ds = true → (∀ t ∈ PyData.shownAll ds, t.length ≤ sizeLine) →
    (∃ as, ReadsAll s.heap us ds as) ∧ ∃ bs, ReadAtMost s.heap (PyData.depthAll ds) bs ∧ ReprAllK X.prog X.w bs s.heap (PyData.depthAll ds) us (PyData.shownAll ds)
  | _, _, .nil, us, r, _, _ => by
    cases r
    exact ⟨⟨[], .nil⟩, [], (fun _ z => nomatch z), by simp only [PyData.shownAll]; exact .nil⟩
  | _, _, .cons (d := d) (ds := ds) h rs, us, r, hs, hz => by
    cases r with
    | cons r1 r2 =>
      have hs' : d.showable = true ∧ PyData.showableAll ds = true := by simpa only [PyData.showableAll, Bool.and_eq_true] using hs
      obtain ⟨⟨as, ra⟩, b1, hb1, k1⟩ := Rep.shw I h r1 hs'.1 (hz _ (by simp only [PyData.shownAll]; exact List.mem_cons_self ..))
      obtain ⟨⟨as2, ra2⟩, b2, hb2, k2⟩ := Reps.shw I rs r2 hs'.2 fun t ht => hz t (by simp only [PyData.shownAll]; exact List.mem_cons_of_mem _ ht)
      refine ⟨⟨_, .cons ra ra2⟩, b1 ++ b2, ?_, ?_⟩
      · simp only [PyData.depthAll]
        exact (hb1.mono (Nat.le_max_left _ _)).append (hb2.mono (Nat.le_max_right _ _))
      · simp only [PyData.depthAll, PyData.shownAll]
        exact .cons ((k1.more fun b hb => List.mem_append_left _ hb).level_le (Nat.le_max_left _ _)) (k2.more_le (fun b hb => List.mem_append_right _ hb) (Nat.le_max_right _ _))
theorem RepKV.shw (I : Inv X pins σ H s) : ∀ {kvs : List (Key × V)} {ds : List (PyData × PyData)}, RepKV X.K H kvs ds → ∀ {vs : List (Key × Value)} {es : List DictEntry}, KV kvs vs → Pairs (mixKind X.prog X.w) es vs → PyData.showableKv ds = true → (∀ t ∈ PyData.shownKv ds, t.length ≤ sizeLine) →
    (∃ as, ReadsAll s.heap (es.map (·.key)) (ds.map (·.1)) as) ∧ (∃ as, ReadsAll s.heap (es.map (·.val)) (ds.map (·.2)) as) ∧ ∃ bs, ReadAtMost s.heap (PyData.depthKv ds) bs ∧ ReprEntriesK X.prog X.w bs s.heap (PyData.depthKv ds) es (PyData.shownKv ds)
  | _, _, .nil, vs, es, kv, ps, _, _ => by
    cases kv
    cases ps
    exact ⟨⟨[], .nil⟩, ⟨[], .nil⟩, [], (fun _ z => nomatch z), by simp only [PyData.shownKv]; exact .nil⟩
  | _, _, .cons (k := k) (v := v) (d := d) (kvs := kvs) (ds := ds) h rs, vs, es, kv, ps, hs, hz => by
    cases kv with
    | cons r1 r2 =>
      cases ps with
      | cons q1 q2 q3 =>
        rename_i p vs1 e es1
        obtain ⟨rk, rvv⟩ := r1
        have hs' : ((kD k).showable = true ∧ d.showable = true) ∧ PyData.showableKv ds = true := by simpa only [PyData.showableKv, Bool.and_eq_true] using hs
        have hz1 : ((kD k).shown ++ ": " ++ d.shown).length ≤ sizeLine := hz _ (by simp only [PyData.shownKv]; exact List.mem_cons_self ..)
        have hzk : (kD k).shown.length ≤ sizeLine := by
          obtain ⟨p, hp, hl⟩ := PyData.shownKv_key_le ((kD k, d) :: ds) (kD k).shown (by simp only [List.map_cons, PyData.shownAll]; exact List.mem_cons_self ..)
          exact Nat.le_trans hl (hz p hp)
        have hzv : d.shown.length ≤ sizeLine := by
          obtain ⟨p, hp, hl⟩ := PyData.shownKv_val_le ((kD k, d) :: ds) d.shown (by simp only [List.map_cons, PyData.shownAll]; exact List.mem_cons_self ..)
          exact Nat.le_trans hl (hz p hp)
        have kk : Shw X.prog X.w s.heap e.key (kD k) := by
          have rk' : k = p.1 := rk
          have q1' : keyIs k e.key = true := by rw [rk']; exact q1
          rcases keyIs_shape q1' with ⟨i, t, ek, ev⟩ | ⟨x, t, ek, ev⟩
          · subst ek
            rw [ev]
            exact .leaf (.int i t) (by simp only [kD, PyData.shown]; exact ReprIs.int t (by simpa [kD, PyData.showable] using hs'.1.1))
          · subst ek
            rw [ev]
            exact .leaf (.str x t) (by simp only [kD, PyData.shown] at hzk ⊢; exact ReprIs.str x t hzk)
        obtain ⟨⟨as, ra⟩, b1, hb1, k1⟩ := kk
        obtain ⟨⟨as2, ra2⟩, b2, hb2, k2⟩ := Rep.shw I h (show RelV v e.val by rw [q2]; exact rvv) hs'.1.2 hzv
        obtain ⟨⟨as3, ra3⟩, ⟨as4, ra4⟩, b3, hb3, k3⟩ := RepKV.shw I rs r2 q3 hs'.2 fun t ht => hz t (by simp only [PyData.shownKv]; exact List.mem_cons_of_mem _ ht)
        have d1 : (kD k).depth ≤ PyData.depthKv ((kD k, d) :: ds) := by simp only [PyData.depthKv]; omega
        have d2 : d.depth ≤ PyData.depthKv ((kD k, d) :: ds) := by simp only [PyData.depthKv]; omega
        have d3 : PyData.depthKv ds ≤ PyData.depthKv ((kD k, d) :: ds) := by simp only [PyData.depthKv]; omega
        refine ⟨⟨_, .cons ra ra3⟩, ⟨_, .cons ra2 ra4⟩, b1 ++ (b2 ++ b3), (hb1.mono d1).append ((hb2.mono d2).append (hb3.mono d3)), ?_⟩
        simp only [PyData.shownKv]
        refine .cons ((k1.more fun b hb => List.mem_append_left _ hb).level_le d1) ((k2.more fun b hb => List.mem_append_right _ (List.mem_append_left _ hb)).level_le d2) ?_
        have up : ∀ {es : List DictEntry} {ts : List Str}, ReprEntriesK X.prog X.w b3 s.heap (PyData.depthKv ds) es ts → ReprEntriesK X.prog X.w (b1 ++ (b2 ++ b3)) s.heap (PyData.depthKv ((kD k, d) :: ds)) es ts := fun {es ts} z => by
          induction z with
          | nil => exact .nil
          | cons z1 z2 _ ih => exact .cons ((z1.more fun b hb => List.mem_append_right _ (List.mem_append_right _ hb)).level_le d3) ((z2.more fun b hb => List.mem_append_right _ (List.mem_append_right _ hb)).level_le d3) ih
        exact up k3
end
end
def rRepr (K : Fg) : List V → Hp → VK → Prop := fun xs H Q => ∃ x d, xs = [x] ∧ Rep K H x d ∧ d.showable = true ∧ d.shown.length ≤ sizeLine ∧ d.depth ≤ 60 ∧ Q (.str d.shown) H
theorem call_repr {X : Cx} (hgd : X.A.guards = some []) (hu : X.A.units + 64 < cLine) : CallR X (.builtin "repr") (rRepr X.K) := by
  intro pins s σ H xs us Q I r h
  obtain ⟨x, d, rfl, rp, hs, hz, hd, q⟩ := h
  obtain ⟨u, rfl, rx⟩ := r.one
  have fin : ∀ (h' : Heap) (t : Tok) (tk : Nat), (∀ b o, s.heap.get? b = some o → h'.get? b = some o) → EP X pins σ Q (.str d.shown t) { s with heap := h', toks := tk } := fun h' t tk hk => ⟨.str d.shown, H, I.kept hk, ⟨t, rfl⟩, q⟩
  cases rp with
  | none =>
    have rx : u = Value.none := rx
    subst rx
    exact PySem.P.repr_of_none (by simpa only [PyData.shown] using fin s.heap _ _ fun _ _ e => e)
  | bool b =>
    have rx : u = Value.bool b := rx
    subst rx
    exact PySem.P.repr_of_bool (by simpa only [PyData.shown] using fin s.heap _ _ fun _ _ e => e)
  | int i =>
    obtain ⟨t, rx⟩ : ∃ t, u = Value.int i t := rx
    subst rx
    exact PySem.P.repr_of_int (by simpa [PyData.showable] using hs) (by simpa only [PyData.shown] using fin s.heap _ _ fun _ _ e => e)
  | str z =>
    obtain ⟨t, rx⟩ : ∃ t, u = Value.str z t := rx
    subst rx
    exact PySem.P.repr_of_str (by simpa only [PyData.shown] using fin s.heap _ _ fun _ _ e => e) (by simpa only [PyData.shown] using hz)
  | lst h rs =>
    rename_i a vs ds
    have rx : u = Value.ref a := rx
    subst rx
    have hz' : (listText (PyData.shownAll ds)).length ≤ sizeLine := by simpa only [PyData.shown] using hz
    obtain ⟨o, its, n, e1, e2, e3, rv⟩ := obj_list I h
    obtain ⟨⟨as, ra⟩, bs, hb, hk⟩ := Reps.shw I rs rv (by simpa only [PyData.showable] using hs) fun t ht => Nat.le_trans (listText_mem_le ht) hz'
    have rd : Reads s.heap (.ref a) (.list ds) (a :: as) := .list e1 e2 e3 (by simpa using ra)
    have hna : a ∉ bs := not_mem_of_deeper rd (by simp only [PyData.depth]; omega) hb
    simp only [PyData.depth] at hd
    refine call_repr_slot (by omega) ⟨o, e1, e2⟩ F.slot_list_repr.toG ?_
    cases its with
    | nil =>
      cases ra
      refine call_list_repr_empty ⟨o, e1, e2⟩ e1 e3 ⟨_, _, rfl, ?_⟩
      have := fin s.heap s.toks (s.toks + 1) fun _ _ e => e
      simpa only [PyData.shown, PyData.shownAll, listText_nil] using this
    | cons y ys =>
      exact call_list_reprK e1 e2 e3 hna (by simpa using hk.length_eq) (fun i z e => hk.item i z (by simpa using e)) hgd (fun b _ => Clear.nil b) (by show X.A.units + 1 + _ < _; omega) (fun _ _ e => e) (fun h' t tk hk => ⟨_, _, rfl, by simpa only [PyData.shown] using fin h' t tk hk⟩) hz'
  | tup h rs =>
    rename_i a vs ds
    have rx : u = Value.ref a := rx
    subst rx
    have hz' : (tupleText (PyData.shownAll ds)).length ≤ sizeLine := by simpa only [PyData.shown] using hz
    obtain ⟨o, its, n, e1, e2, e3, rv⟩ := obj_tup I h.t
    obtain ⟨⟨as, ra⟩, bs, hb, hk⟩ := Reps.shw I rs rv (by simpa only [PyData.showable] using hs) fun t ht => Nat.le_trans (tupleText_mem_le ht) hz'
    have rd : Reads s.heap (.ref a) (.tuple ds) as := .tuple e1 e2 e3 (by simpa using ra)
    have hna : a ∉ bs := not_mem_of_deeper rd (by simp only [PyData.depth]; omega) hb
    simp only [PyData.depth] at hd
    refine call_repr_slot (by omega) ⟨o, e1, e2⟩ F.slot_tuple_repr ?_
    exact call_tuple_reprK e1 e2 e3 hna (by simpa using hk) hgd (fun b _ => Clear.nil b) (by show X.A.units + 1 + _ < _; omega) (fun _ _ e => e) (fun h' t tk hk => ⟨_, _, rfl, by simpa only [PyData.shown] using fin h' t tk hk⟩) hz'
  | dct h rs =>
    rename_i a kvs ds
    have rx : u = Value.ref a := rx
    subst rx
    have hz' : (dictText (PyData.shownKv ds)).length ≤ sizeLine := by simpa only [PyData.shown] using hz
    obtain ⟨_, hsys, vs, kv, o, es, ep, e1, ex, e3, _, ps, _⟩ := dk_of I.hok h
    obtain ⟨⟨as, ra⟩, ⟨as2, ra2⟩, bs, hb, hk⟩ := RepKV.shw I rs kv ps (by simpa only [PyData.showable] using hs) fun t ht => Nat.le_trans (dictText_mem_le ht) hz'
    have rd : Reads s.heap (.ref a) (.dict ds) (a :: as ++ as2) := .dict e1 ex.1 e3 ra ra2
    have hna : a ∉ bs := not_mem_of_deeper rd (by simp only [PyData.depth]; omega) hb
    simp only [PyData.depth] at hd
    refine call_repr_slot (by omega) ⟨o, e1, ex.1⟩ F.slot_dict_repr ?_
    exact call_dict_reprK e1 ex.1 e3 hsys hna hk hgd (fun b _ => Clear.nil b) (by show X.A.units + 1 + _ < _; omega) (fun _ _ e => e) (fun h' t tk hk => ⟨_, _, rfl, by simpa only [PyData.shown] using fin h' t tk hk⟩) hz'
def reprD (d : PyData) : Option PyData := if (d.showable = true ∧ d.shown.length ≤ sizeLine) ∧ d.depth ≤ 60 then some (.str d.shown) else none
theorem repr_ok (K : Fg) : OpN K (rRepr K) (dat1 reprD) := by
  intro pv F H σ ρ fps xs rs res tf Q S R e k
  obtain ⟨r, a, d, rfl, e1, e2, rfl⟩ := dat1_inv e
  obtain ⟨v, f, rfl, R1, _⟩ := R.one
  unfold reprD at e2
  split at e2
  · rename_i hc
    cases e2
    exact ⟨v, a, rfl, R1.dat S e1, hc.1.1, hc.1.2, hc.2, k _ F H noA (Grow.refl S.le) ⟨.str _, fun _ z => z⟩⟩
  · cases e2
end Dt

namespace Dt
open PySem PySem.Spec PyProof.Rows L2

/-! ### tuple(x), list(x) -/
def tupR (ρ : Env) (rs : List Res) : Option Res := match rs with
  | [r] => (r.seq ρ).map fun p => .cl (.tuple p.2)
  | _ => none
def rTupP (K : Fg) : List V → Hp → VK → Prop := fun xs H Q => ∃ p ys, xs = [.ref p] ∧ ((SqL K H p ys ∧ ∀ (l : Addr) (o : Obj), o.dict = none → H l = none → Q (.ref l) (upd H l (.frz o (.tup ys)))) ∨ (SqT K H p ys ∧ Q (.ref p) H))
theorem call_tupleP {X : Cx} : CallR X (.type "tuple") (rTupP X.K) := by
  intro pins s σ H xs us Q I r h
  obtain ⟨p, ys, rfl, h⟩ := h
  obtain ⟨u, rfl, rx⟩ := vals1 r
  cases rx
  rcases h with ⟨hq, q⟩ | ⟨hq, q⟩
  · obtain ⟨its, r', pl, hz⟩ := I.list hq
    have hlen := r'.length
    refine call_tuple_list pl.isList (fun h' kp => ?_) (by simp only [List.size_toArray] <;> omega)
    have I1 : Inv X pins σ H { s with heap := h' } := I.kept (t' := s.toks) kp
    exact ⟨.ref h'.objs.size, _, I1.laid (t' := s.toks) (o := .frz { cls := .type "tuple", data := .seq its.toArray } (.tup ys)) (fun b o e => Heap.get?_push_of_some _ e) (Nat.le_refl _) ⟨Heap.get?_push_size _ rfl, hz, its, r', IsTup.new _ _⟩, rfl, q _ _ rfl (I1.hok.fresh (Nat.le_refl _))⟩
  · obtain ⟨its, r', pl, hz⟩ := I.tuple hq
    exact call_tuple_same pl ⟨.ref p, H, I, rfl, q⟩
theorem tup_ok (K : Fg) : OpN K (rTupP K) tupR := by
  intro pv F H σ ρ fps xs rs res tf Q S R e k
  unfold tupR at e
  split at e
  · rename_i r
    obtain ⟨v, f, rfl, R1, _⟩ := R.one
    cases hs : r.seq ρ with
    | none => rw [hs] at e; cases e
    | some p =>
      obtain ⟨b, ds⟩ := p
      rw [hs] at e
      cases e
      cases b with
      | true =>
        obtain ⟨a, vs, rfl, h1, h2⟩ := R1.seqL S hs
        exact ⟨a, vs, rfl, .inl ⟨h1, fun l o hd hl => k _ _ _ _ (Grow.frozenT S.le hl) (RepR.newT S.le hd hl h2)⟩⟩
      | false =>
        obtain ⟨a, vs, rfl, h1, h2⟩ := R1.seqP S hs
        exact ⟨a, vs, rfl, .inr ⟨Same.sqT S.le h1.t, k _ F H noA (Grow.refl S.le) ⟨.tup h1 h2, fun _ z => z⟩⟩⟩
  · cases e
/-! ### l.count(k) of ints -/
def intsOf : List PyData → Option (List Int)
  | [] => some []
  | .int i :: r => (intsOf r).map fun is => i :: is
  | _ => none
theorem intsOf_rep {K : Fg} {F : Hp} : ∀ {vs : List V} {ds : List PyData} {is : List Int}, Reps K F vs ds → intsOf ds = some is → vs = is.map V.int
  | _, [], is, .nil, e => by
    have e : some [] = some is := e
    cases e
    rfl
  | _, d :: ds, is, .cons r t, e => by
    cases r with
    | int i =>
      have e : (intsOf ds).map (fun is => i :: is) = some is := e
      cases h : intsOf ds with
      | none => rw [h] at e; cases e
      | some js =>
        rw [h] at e
        cases e
        rw [intsOf_rep t h]
        rfl
    | none => cases e
    | bool _ => cases e
    | str _ => cases e
    | tup _ _ => cases e
    | lst _ _ => cases e
    | dct _ _ => cases e
/-- a method that reads a list, a tuple -/
def rdR (f : Bool → List PyData → List PyData → Option PyData) (ρ : Env) (r : Res) (rs : List Res) : Option Res := (r.seq ρ).bind fun p => (clns ρ rs).bind fun es => (f p.1 p.2 es).map Res.cl
def gRdM (isL : Bool) (f : Bool → List PyData → List PyData → Option PyData) (g : DE) (ga : DA) : DE := fun ρ Q => g ρ fun q1 r ρ1 => (∃ ds, r.seq ρ1 = some (isL, ds)) ∧ ga ρ1 fun q2 rs ρ2 => (r.deep = true → q2 = true) ∧ ok (rdR f ρ2 r rs) fun res => Q (q1 && q2) res ρ2
section
variable {X : Cx} {pv : Pins} {pos apos cpos : Pos} {o e : Expr} {es : List Expr} {g : DE} {ga : DA} {name : Str} {mid : String} {rm : V → List V → Hp → VK → Prop} {f : Bool → List PyData → List PyData → Option PyData}
/-! ### f(.., *xs, ..), (.., *xs, ..) -/
def gStar (g : DE) (ga : DA) : DA := fun ρ Q => g ρ fun q1 r ρ1 => ok (r.cln ρ1) fun d => (∃ ds, (d = .tuple ds ∨ d = .list ds) ∧ ga ρ1 fun q2 rs ρ2 => Q (q1 && q2) (ds.map Res.cl ++ rs) ρ2)
theorem RepRs.cls {K : Fg} {F H : Hp} {σ : St} {ow : AS} {ys : List V} {rs : List Res} {f : AS} (h : RepRs K F H σ ow ys rs f) : ∀ {vs : List V} {ds : List PyData}, Reps K F vs ds → RepRs K F H σ ow (vs ++ ys) (ds.map Res.cl ++ rs) f
  | _, _, .nil => h
  | _, _, .cons r t => ⟨noA, f, ⟨r, fun _ z => z⟩, RepRs.cls h t, fun _ z _ => z, fun _ => ⟨.inr, fun z => z.elim (fun z => z.elim) (fun z => z)⟩⟩
/-! ### a, b = x, y with plain names -/
def gPar (i j : Nat) (ga : DA) : DS := fun D ρ => ga ρ fun _ rs ρ' => match rs with
  | [r1, r2] => (i < ρ'.length ∧ j < ρ'.length) ∧ ok (keepR ρ' r1) fun o1 => ok (keepR ρ' r2) fun o2 => D.nx ((ρ'.set i (some o1)).set j (some o2))
  | _ => False
theorem ds_par {i j : Nat} {x y : Str} {a b : Expr} {ga : DA} {px py pt : Pos} {kt k2 pt2} (hc : X.calm = true) (hN : X.N.Nodup) (hi : X.N[i]? = some x) (hj : X.N[j]? = some y) (hij : i ≠ j) (hpi : (pv.l[i]?).join = none) (hpj : (pv.l[j]?).join = none)
    (hps : PS X (.Assign [.Tuple [.Name x px, .Name y py] kt pt] (.Tuple [a, b] k2 pt2) pos) (tPar i j (liftA X.K pv ga))) : DSv X pv (.Assign [.Tuple [.Name x px, .Name y py] kt pt] (.Tuple [a, b] k2 pt2) pos) (gPar i j ga) :=
  PS.to hps fun D σ H ⟨ρ, F, fps, D0, S, h, en⟩ => by
    refine ⟨ρ, F, fps, _, S, en.ex, h, fun q rs ρ' vs H' F' fps' f q0 S' s er _ => ?_⟩
    match rs, q0, er with
    | [r1, r2], ⟨⟨l1, l2⟩, o1, e1, o2, e2, q0⟩, er =>
      match vs, er with
      | [v, w], ⟨f1, f2, R1, ⟨f3, f4, R2, hn, _, ef2⟩, dj, ef⟩ =>
        refine ⟨v, w, rfl, ?_⟩
        have ro1 := keepR_rep S' R1 e1
        have ro2 := keepR_rep S' R2 e2
        have t2 : ∀ {b : Addr}, f3 b → f2 b := fun {b} z => (ef2 b).mpr (.inl z)
        obtain ⟨S1, o1'⟩ := S'.put (noPin hpi) l1 ro1 fun b p => (R1.out b p).2.2.1
        have ro2' : RepO X.K F' H' w o2 f3 := ro2
        obtain ⟨S2, o2'⟩ := S1.put (noPin hpj) (by rw [List.length_set]; exact l2) ro2' fun b p z => by
          rcases o1' b z with z | z
          · exact (R2.out b p).2.2.1 z
          · exact dj b z (t2 p)
        refine en.nx _ _ H' F' _ q0 S2 (s.less fun b z => ?_)
        rcases o2' b z with z | z
        · rcases o1' b z with z | z
          · exact .inl z
          · exact .inr ((ef b).mpr (.inl z))
        · exact .inr ((ef b).mpr (.inr (t2 z)))
/-! ### l[i] = .. as a target -/
def tgSub (go gi : DE) : DG := fun d ρ Q => go ρ fun _ r ρ1 => r.deep = false ∧ gi ρ1 fun _ ri ρ2 => ok (lstAt ρ2 r) fun t => ok (asI ri) fun i => ok (ixN t.2.2.length i) fun j => Q (putAt ρ2 t.1 t.2.1 (.lst (t.2.2.set j d)))
theorem Reps.set {K : Fg} {F : Hp} {v : V} {d : PyData} (r : Rep K F v d) : ∀ {vs : List V} {ds : List PyData} (j : Nat), Reps K F vs ds → Reps K F (vs.set j v) (ds.set j d)
  | _, _, _, .nil => .nil
  | _, _, 0, .cons _ t => .cons r t
  | _, _, j + 1, .cons h t => .cons h (Reps.set r j t)
end
end Dt

namespace Dt
open PySem PySem.Spec PyProof.Rows L2

/-! ### calls with keywords -/
/-- the parameters, each by its place among what was evaluated -/
def permL {α : Type} (pm : List Nat) (xs : List α) : List α := pm.filterMap fun i => xs[i]?
def gCallK (G : Spec) (n a : Nat) (pm : List Nat) (ga gk : DA) : DE := fun ρ Q => ga ρ fun q1 rs ρ1 => rs.length = a ∧ gk ρ1 fun q2 ks ρ2 => (rs.all (fun r => !r.deep) = true ∧ (rs ++ ks).length = n) ∧ ok (argOs ρ2 (permL pm (rs ++ ks))) fun os => (slNd (permL pm (rs ++ ks)) = true ∧ (permL pm (rs ++ ks)).length = n) ∧
  G os fun r ρf => Q (q1 && (q2 && noSl (permL pm (rs ++ ks)))) r (back ρ2 (permL pm (rs ++ ks)) ρf)
theorem Each.append {K : Fg} {F H : Hp} {σ : St} {ow : AS} {vs ws : List V} {rs ks : List Res} (a : Each K F H σ ow vs rs) (b : Each K F H σ ow ws ks) : Each K F H σ ow (vs ++ ws) (rs ++ ks) := by
  refine ⟨by rw [List.length_append, List.length_append, a.1, b.1], fun j v r h1 h2 => ?_⟩
  by_cases hj : j < vs.length
  · rw [List.getElem?_append_left hj] at h1
    rw [List.getElem?_append_left (by rw [← a.1]; exact hj)] at h2
    exact a.2 j v r h1 h2
  · rw [List.getElem?_append_right (by omega)] at h1
    rw [List.getElem?_append_right (by rw [← a.1]; omega), ← a.1] at h2
    exact b.2 _ v r h1 h2
theorem Each.perm {K : Fg} {F H : Hp} {σ : St} {ow : AS} {vs : List V} {rs : List Res} (a : Each K F H σ ow vs rs) : ∀ pm : List Nat, Each K F H σ ow (permL pm vs) (permL pm rs)
  | [] => ⟨rfl, fun j v r h => by simp [permL] at h⟩
  | i :: pm => by
    have ih := Each.perm a pm
    unfold permL at ih ⊢
    rw [List.filterMap_cons, List.filterMap_cons]
    by_cases hi : i < vs.length
    · have e1 : vs[i]? = some vs[i] := List.getElem?_eq_getElem hi
      have hi2 : i < rs.length := by rw [← a.1]; exact hi
      have e2 : rs[i]? = some rs[i] := List.getElem?_eq_getElem hi2
      rw [e1, e2]
      refine ⟨by rw [List.length_cons, List.length_cons, ih.1], fun j v r h1 h2 => ?_⟩
      cases j with
      | zero =>
        rw [List.getElem?_cons_zero] at h1 h2
        cases h1
        cases h2
        exact a.2 i _ _ e1 e2
      | succ j => rw [List.getElem?_cons_succ] at h1 h2; exact ih.2 j v r h1 h2
    · rw [List.getElem?_eq_none (by omega), List.getElem?_eq_none (by rw [← a.1]; omega)]
      exact ih
theorem RepRs.later {K : Fg} {F1 H1 F2 H2 : Hp} {σ : St} {ow1 ow2 f2 : AS} (s : Step F1 H1 ow1 F2 H2 (orA ow2 f2)) : ∀ {vs : List V} {rs : List Res} {f : AS}, RepRs K F1 H1 σ ow1 vs rs f → rs.all (fun r => !r.deep) = true → RepRs K F2 H2 σ ow2 vs rs f
  | [], [], _, h, _ => h
  | v :: vs, r :: rs, f, ⟨f1, f3, h1, h2, h3, h4⟩, hd => by
    rw [List.all_cons, Bool.and_eq_true_iff] at hd
    exact ⟨f1, f3, (h1.later s fun z => by rw [z] at hd; cases hd.1).1, RepRs.later s h2 hd.2, h3, h4⟩
  | [], _ :: _, _, h, _ => h.elim
  | _ :: _, [], _, h, _ => h.elim
section
variable {X : Cx} {pv : Pins} {pos p kpos : Pos} {k n m : Nat} {f : Addr} {fd : FuncData} {ps ks : List Str} {x : Str} {e : Expr} {es : List Expr} {kws : List Keyword} {ga gk : DA} {g : DE} {G : Spec} {nm : Option Str} {pm : List Nat} {sp : Sp} {E : XK} {t tk : TA} {gg : List Value → List Value → List Value} {gV : List V → List V → List V}
end
/-! ### the end: the law's own call -/
theorem law_callG {P : Program} {w : World} {K : Fg} {mg mb : Str → Option Value} {k : Nat} {fa a : Addr} {fd : FuncData} {x : Str} {sp : Sp} {s1 : Shared} {vs : List Value} {ns : List Int} {tbs : List (Addr × Addr)}
    (KX : K.In s1.heap) (hns : s1.heap.Ns mainGlobals mg) (hb : s1.heap.Ns builtinsNs mb) (hbb : ∀ x : Str, x ≠ "__name__" → mb x = bootBuiltins x) (hlim : s1.heap.NoLimit) (hgn : s1.gens = #[])
    (tE : ∀ q ∈ tbs, s1.heap.get? q.2 = some { cls := .none, data := .fields #[] } ∧ K.lookup q.2 = none ∧ PySem.W.CodeHd s1.heap q.1 q.2)
    (tM : ∃ (bm : Addr) (ob : Obj), mg "__builtins__" = some (.ref bm) ∧ bm ≠ builtinsNs ∧ s1.heap.get? bm = some ob ∧ ob.cls = .type "module" ∧ ob.dict = some builtinsNs ∧ ob.data = .plain)
    (ha : s1.heap.get? a = some { cls := .type "list", data := .seq vs.toArray }) (hi : IntsAre vs ns) (hl : ns.length ≤ sizeLine) (hr : Room k callerA)
    (Fn : ∀ base : Heap, K.In base → base.Ns mainGlobals mg → (∀ q ∈ tbs, LamX.TabB base mg q.1 q.2) → FnG P w K mg base CX0 k fa fd [x] sp) (hbind : ∀ (s : Shared) (u : Value), BindsTo s fd ⟨[u], []⟩ [(x, u)])
    (hsp : ∀ H : Hp, (∀ q ∈ tbs, H q.2 = some (.tbl #[])) → ((∃ o, H a = some (.frz o (.lst (ns.map V.int)))) ∨ ∀ H', SqL K H' a (ns.map V.int)) → sp [.ref a] H (fun v _ => v = .bl true) fun _ _ _ => False) :
    codeAny (model P w) callerA (.call (.ref fa) ⟨[.ref a], []⟩) (fun r s' => r = .ok (.ret (.bool true)) ∧ OldK s1.heap s'.heap ∧ s'.os = s1.os ∧ AllBare s'.gens) s1 := by
  have rv := vals_ints hi
  have lv := hi.length
  -- the tables' places
  let tP : Addr → Prop := fun b => ∃ q ∈ tbs, q.2 = b
  have tO : ∀ {b : Addr}, tP b → s1.heap.get? b = some { cls := .none, data := .fields #[] } := fun {b} ⟨q, hq, e⟩ => by rw [← e]; exact (tE q hq).1
  have ta : ¬ tP a := fun z => by
    have e := tO z
    rw [ha] at e
    have e := congrArg Obj.data (Option.some.inj e)
    simp at e
  have main : ∀ H : Hp, (∀ b, tP b → H b = some (.tbl #[])) → (∀ b, ¬ tP b → H b = none ∨ ∃ o xs, H b = some (.frz o (.lst xs))) → ((∃ o, H a = some (.frz o (.lst (ns.map V.int)))) ∨ ∀ H', SqL K H' a (ns.map V.int)) → HOk P w H s1.heap → (∀ b, ¬ tP b → H b ≠ none → b = a) → (H a ≠ none → K.lookup a = none) →
      codeAny (model P w) callerA (.call (.ref fa) ⟨[.ref a], []⟩) (fun r s' => r = .ok (.ret (.bool true)) ∧ OldK s1.heap s'.heap ∧ s'.os = s1.os ∧ AllBare s'.gens) s1 := by
    intro H hT hO hS2 okH hA hK
    have inBase : ∀ {b : Addr} {o : Obj}, s1.heap.get? b = some o → H b = none → (hidT s1.heap H).get? b = some o := fun e n => hidT_get e n
    have clear : ∀ {b : Addr} {o : Obj}, s1.heap.get? b = some o → (∀ us m, o.data ≠ .seq us m) → o.data ≠ .fields #[] → H b = none := fun {b o} e d1 d2 => by
      cases q : H b with
      | none => rfl
      | some u =>
        by_cases hb : tP b
        · have e2 := tO hb
          rw [e] at e2
          have e2 := congrArg Obj.data (Option.some.inj e2)
          exact (d2 e2).elim
        · have eb : b = a := hA b hb (by rw [q]; simp)
          subst eb
          rw [ha] at e
          have e := congrArg Obj.data (Option.some.inj e)
          exact (d1 _ _ e.symm).elim
    have dict : ∀ {b : Addr} {o : Obj} {es : Array DictEntry} {ep : Nat}, s1.heap.get? b = some o → o.data = .dict es ep → H b = none := fun {b o es ep} e d =>
      clear e (fun us m z => by rw [d] at z; cases z) fun z => by rw [d] at z; cases z
    have nsIn : ∀ {b : Addr} {m : Str → Option Value}, s1.heap.Ns b m → (hidT s1.heap H).Ns b m := fun {b m} z => by
      obtain ⟨o, es, ep, e, d, r⟩ := z
      exact ⟨o, es, ep, inBase e (dict e d), d, r⟩
    have Kb : K.In (hidT s1.heap H) := fun b o e => inBase (KX b o e) (by
      cases q : H b with
      | none => rfl
      | some u =>
        by_cases hb : tP b
        · obtain ⟨c, hc, ec⟩ := hb
          have e3 := (tE c hc).2.1
          rw [ec, e] at e3
          cases e3
        · have eb : b = a := hA b hb (by rw [q]; simp)
          subst eb
          rw [hK (by rw [q]; simp)] at e
          cases e)
    have md : Mod K mg (hidT s1.heap H) := ⟨Kb, nsIn hns, ⟨mb, nsIn hb, hbb⟩, by
      obtain ⟨mc, h1, h2⟩ := hlim
      exact ⟨mc, nsIn h1, h2⟩⟩
    have tB : ∀ q ∈ tbs, LamX.TabB (hidT s1.heap H) mg q.1 q.2 := fun q hq => by
      obtain ⟨e0, _, hc⟩ := tE q hq
      refine ⟨?_, ?_, fun z => ?_⟩
      · obtain ⟨o, us, f1, f2, f3, f4, f5, f6, f7, c1, c2, c3, c4, rest⟩ := hc
        refine ⟨o, us, f1, f2, f3, f4, f5, f6, f7, inBase c1 (clear c1 (fun vs' m z => ?_) fun z => ?_), c2, c3, c4, rest⟩
        · rw [c3] at z; cases z
        · rw [c3] at z
          have z : us = #[] := by cases z; rfl
          subst z
          simp at c4
      · obtain ⟨bm, ob, b1, b2, b3, b4, b5, b6⟩ := tM
        have n1 : bm ≠ mainGlobals := fun z => by
          obtain ⟨o, es, ep, g1, g2, _⟩ := hns
          subst z
          rw [g1] at b3
          have b3 := congrArg Obj.data (Option.some.inj b3)
          rw [g2, b6] at b3
          cases b3
        have n2 : bm ≠ q.2 := fun z => by
          subst z
          rw [e0] at b3
          have b3 := congrArg Obj.data (Option.some.inj b3)
          rw [b6] at b3
          cases b3
        refine ⟨bm, ob, b1, b2, n1, n2, inBase b3 (clear b3 (fun vs' m z => ?_) fun z => ?_), b4, b5, b6⟩
        · rw [b6] at z; cases z
        · rw [b6] at z; cases z
      · obtain ⟨o, es, ep, g1, g2, _⟩ := hns
        rw [z, e0] at g1
        have g1 := congrArg Obj.data (Option.some.inj g1)
        rw [g2] at g1
        cases g1
    have en : Env0 P w K mg (hidT s1.heap H) callerA [] s1 H := ⟨rfl, md, fun b o e => of_hidT e, Nat.le_of_eq (hidT_size _ _), trivial, fun b hb => absurd (show b ∈ ([] : List Addr) from hb) (by simp), okH, .of_eq hgn⟩
    refine codeAny_mono ((Fn _ Kb (nsIn hns) tB).run callerA [] s1 H ⟨[.ref a], []⟩ [.ref a] [.ref a] _ _ hr rfl en (hbind s1 (.ref a)) (.cons rfl .nil) (hsp H (fun q hq => hT _ ⟨q, hq, rfl⟩) hS2)) fun r s' h => ?_
    match r, h with
    | .ok (.ret u), ⟨v, H', os, bare, un, ok', rr, q⟩ =>
      have q : v = .bl true := q
      subst q
      have rr : u = Value.bool true := rr
      subst rr
      have grown : ∀ q ∈ tbs, ∃ more : Array Value, s'.heap.get? q.2 = some { cls := .none, data := .fields more } := fun q hq => by
        obtain ⟨more, e⟩ := un.tbls q.2 #[] (hT _ ⟨q, hq, rfl⟩)
        exact ⟨_, ok' q.2 _ e⟩
      have stays : ∀ b o, ¬ tP b → s1.heap.get? b = some o → s'.heap.get? b = some o := fun b o hb e => by
        cases q : H b with
        | none => exact un.keep b o e q (by intro z; exact absurd (show b ∈ ([] : List Addr) from z) (by simp)) (by simp)
        | some u =>
          rcases hO b hb with z | ⟨ob, xs, z⟩
          · rw [q] at z; cases z
          · obtain ⟨e1, _⟩ := okH b _ z
            obtain ⟨e2, _⟩ := ok' b _ (un.frzs b ob _ z)
            rw [e] at e1
            cases e1
            exact e2
      refine ⟨rfl, ⟨fun b o e => ?_, fun b o e => ?_⟩, os, bare⟩
      · by_cases hb : tP b
        · obtain ⟨q, hq, eq⟩ := hb
          obtain ⟨more, hm⟩ := grown q hq
          obtain ⟨e0, _, hc⟩ := tE q hq
          subst eq
          rw [e0] at e
          have e : o = _ := (Option.some.inj e).symm
          subst e
          exact .inr (.inl ⟨(hc.tab e0).isCodeTable, rfl, #[], more, rfl, by rw [Array.empty_append]; exact hm⟩)
        · exact .inl (stays b o hb e)
      · by_cases hb : tP b
        · obtain ⟨q, hq, eq⟩ := hb
          obtain ⟨more, hm⟩ := grown q hq
          subst eq
          exact ⟨_, hm⟩
        · exact ⟨o, stays b o hb e⟩
  have dec : ∀ b, Decidable (tP b) := fun b => Classical.propDecidable _
  cases hk : K.lookup a with
  | some o =>
    have e := KX a o hk
    rw [ha] at e
    cases e
    have alw : ∀ H', SqL K H' a (ns.map V.int) := fun H' => .inr ⟨_, vs.toArray, _, hk, rfl, rfl, rfl, by rw [List.size_toArray, lv]; exact hl, by simpa using rv⟩
    refine main (fun b => if tP b then some (.tbl #[]) else none) (fun b z => if_pos z) (fun b z => .inl (if_neg z)) (.inr alw) (fun b u z => ?_) (fun b z z2 => absurd (if_neg z) z2) fun z => absurd (if_neg ta) z
    by_cases hb : tP b
    · have z := (if_pos hb).symm.trans z
      cases z
      exact tO hb
    · have z := (if_neg hb).symm.trans z
      cases z
  | none =>
    refine main (fun b => if tP b then some (.tbl #[]) else if b = a then some (.frz { cls := .type "list", data := .seq vs.toArray } (.lst (ns.map V.int))) else none) (fun b z => if_pos z) (fun b z => ?_) (.inl ⟨_, (if_neg ta).trans (if_pos rfl)⟩) (fun b u z => ?_) (fun b z z2 => ?_) fun _ => hk
    · by_cases hb : b = a
      · exact .inr ⟨_, _, (if_neg z).trans (if_pos hb)⟩
      · exact .inl ((if_neg z).trans (if_neg hb))
    · by_cases hb : tP b
      · have z := (if_pos hb).symm.trans z
        cases z
        exact tO hb
      · have z := (if_neg hb).symm.trans z
        by_cases h2 : b = a
        · have z := (if_pos h2).symm.trans z
          cases z
          subst h2
          exact ⟨ha, by rw [List.length_map]; exact hl, vs, _, rv, ha⟩
        · have z := (if_neg h2).symm.trans z
          cases z
    · by_cases h2 : b = a
      · exact h2
      · exact absurd ((if_neg z).trans (if_neg h2)) z2
/-- the law's goal from its promise: sp is spD of G, the script a list of ints; tbs: the code objects whose tables may grow, q: their lambdas' names -/
theorem walk_ofG {l : PySem.W.OpenLaw} {n k : Nat} {q : Program} {loose : List Str} {XP : (Str → Option Value) → Heap → Prop} {YP : World → Heap → Prop} {d : DefRec} {K : Params → Fg} {x : Str} {G : World → Spec} {tbs : List (Addr × Addr)} {TL : List (Addr × Str)}
    (hn : l.most = some n) (hn2 : n ≤ sizeLine) (hdf : d.params.defaults = []) (hr : Room k callerA) (hY : ∀ (w : World) (h : Heap), YP w h → (K w.params).In h)
    (hT : ∀ (w : World) (h : Heap), YP w h → (K w.params).In h → ∀ q ∈ tbs, h.get? q.2 = some { cls := .none, data := .fields #[] } ∧ (K w.params).lookup q.2 = none ∧ PySem.W.CodeHd h q.1 q.2) (hq : ∀ p ∈ TL, ∃ c, (c, p.1) ∈ tbs)
    (Fn : ∀ (w : World) (mg : Str → Option Value) (fa : Addr) (h : Heap), (K w.params).In h → h.Ns mainGlobals mg → mg d.name = some (.ref fa) →
      ∃ (fd : FuncData) (cx : Str → Addr), (∀ (s : Shared) (u : Value), BindsTo s fd ⟨[u], []⟩ [(x, u)]) ∧ ∀ base : Heap, (K w.params).In base → base.Ns mainGlobals mg → (∀ q ∈ tbs, LamX.TabB base mg q.1 q.2) → FnG l.prog w (K w.params) mg base CX0 k fa fd [x] (spD (K w.params) ⟨TL, cx⟩ 1 (G w)))
    (hG : ∀ (w : World) (ns : List Int), ns.length ≤ n → G w [.scr ns] fun r _ => r = .cl (.bool true)) : PySem.W.WalkO q loose XP YP l.row.toRowW d [] (fun f vs => PySem.call f vs) := by
  refine Att.attach_call hn hdf fun w s₀ s₁ mg mb fa o pm cd doc a vs ns Gd Y ho hd hcd hmg hobj hints hlen hgn => ?_
  have KX := hY w _ Y
  obtain ⟨fd, cx, hb, hF⟩ := Fn w mg fa _ KX Gd.T.g hmg
  refine law_callG KX Gd.T.g Gd.T.b Gd.T.builtins Gd.T.nolimit hgn (hT w _ Y KX) Gd.T.bmain hobj hints (Nat.le_trans hlen hn2) hr hF hb fun H hT0 hS2 => ?_
  have Rs : ∃ f : AS, RepO (K w.params) (fun _ => none) H (.ref a) (.scr ns) f := by
    rcases hS2 with ⟨o, h⟩ | h
    · exact ⟨fun b => b = a, .scr h rfl fun b => Iff.rfl⟩
    · exact ⟨noA, .scrK h fun _ z => z⟩
  obtain ⟨f, ro⟩ := Rs
  refine ⟨[.scr ns], fun _ => none, fun _ => f, _, fun _ _ => False, rfl, ⟨fun a o e => (by cases e), rfl, fun i o e => ?_, fun i j o o' ne e e' => ?_, fun i v e => ?_, fun a ps z => (by cases z), fun p hp => ?_⟩, hG w ns hlen, fun r ρ' v H' F' fps' f' q0 S' s' er => ?_, fun _ _ _ _ _ _ z => z.elim⟩
  · cases i with
    | zero =>
      have e : some (some (OV.scr ns)) = some (some o) := e
      cases e
      exact ⟨_, rfl, ro⟩
    | succ i => simp at e
  · have h1 := (List.getElem?_eq_some_iff.mp e).1
    have h2 := (List.getElem?_eq_some_iff.mp e').1
    simp at h1 h2
    omega
  · have e : ([] : List (Option V))[i]? = some (some v) := e
    simp at e
  · obtain ⟨c, hc⟩ := hq p hp
    exact LamX.TabS.nil (hT0 _ hc)
  · subst q0
    exact er.1.boolI
end Dt

namespace Dt
open PySem PySem.Spec PyProof.Rows L2

/-! ### short forms -/
section
variable {X : Cx} {pv : Pins} {pos : Pos}
/-- a name of the def -/
theorem dn (i : Nat) {x : Str} (hN : X.N[i]? = some x := by rfl) (hv : Vis X.env.scope x := by first | exact Or.inl rfl | exact Or.inr (Or.inl rfl) | exact Or.inr (Or.inr rfl)) (hd : (x == ("__debug__" : Str)) = false := by decide) (hcd : (x == ("__classdict__" : Str)) = false := by decide) : DEv X pv (.Name x pos) (gVar i) := dv_var hN hv hd hcd
/-- a name whose slot is frozen for good -/
def gFrz (i : Nat) : DE := fun ρ Q => match ρ[i]? with
  | some (some o) => (o.isD = true ∧ i < ρ.length) ∧ Q false (.cl o.toD) (ρ.set i (some (.fr o.toD)))
  | _ => False
theorem dv_frz {i : Nat} {x : Str} (hN : X.N[i]? = some x) (hv : Vis X.env.scope x) (hd : (x == ("__debug__" : Str)) = false := by decide) (hcd : (x == ("__classdict__" : Str)) = false := by decide) : DEv X pv (.Name x pos) (gFrz i) :=
  PE.to (pe_var hN hv hd hcd) fun σ H Q ⟨ρ, F, fps, Q0, S, ex, h, k⟩ => by
    unfold gFrz at h
    split at h
    · rename_i o hr
      obtain ⟨⟨hd, hl⟩, q⟩ := h
      obtain ⟨v, h1, ro⟩ := S.rep i o hr
      have nF : ∀ a, fps i a → F a = none := fun a p => (ro.out a p).1
      have ne : ∀ {j : Nat} {o' : OV} {a : Addr}, i ≠ j → ρ[j]? = some (some o') → fps j a → ¬ fps i a := fun {j o' a} hj hr' p q => S.dis i j _ _ hj hr hr' a q p
      have hi2 : i < σ.length := by rw [← S.len]; exact hl
      have S2 : Sta X.K pv (addF F H (fps i)) H σ (ρ.set i (some (.fr o.toD))) (setF fps i noA) := by
        refine ⟨addF_le S.le, by rw [List.length_set]; exact S.len, fun j o' e => ?_, fun j j' o1 o2 n e1 e2 => ?_, S.pin, addF_noT S.nt ro.noT, S.tab⟩
        · by_cases hj : i = j
          · subst hj
            rw [List.getElem?_set_self hl] at e
            cases e
            refine ⟨v, h1, ?_⟩
            unfold setF
            rw [if_pos rfl]
            exact .fr (ro.freeze (addF_ge nF) (fun a p => addF_in p) hd) fun _ z => z
          · rw [List.getElem?_set_ne hj] at e
            obtain ⟨w, g1, g2⟩ := S.rep j o' e
            refine ⟨w, g1, ?_⟩
            unfold setF
            rw [if_neg (fun z => hj z.symm)]
            exact g2.mono (addF_ge nF) fun a p => ⟨rfl, by rw [addF_no (ne hj e p)]; exact (g2.out a p).1⟩
        · unfold setF
          by_cases hj : i = j
          · subst hj
            rw [if_pos rfl]
            exact fun a z => z.elim
          · rw [List.getElem?_set_ne hj] at e1
            rw [if_neg (fun z => hj z.symm)]
            by_cases hj' : i = j'
            · subst hj'
              rw [if_pos rfl]
              exact fun a _ z => z.elim
            · rw [List.getElem?_set_ne hj'] at e2
              rw [if_neg (fun z => hj' z.symm)]
              exact S.dis j j' o1 o2 n e1 e2
      have ow2 : ∀ {a : Addr}, own (ρ.set i (some (.fr o.toD))) (setF fps i noA) a → own ρ fps a := fun {a} ⟨j, o', e, p⟩ => by
        unfold setF at p
        by_cases hj : i = j
        · subst hj
          rw [if_pos rfl] at p
          exact p.elim
        · rw [List.getElem?_set_ne hj] at e
          rw [if_neg (fun z => hj z.symm)] at p
          exact ⟨j, o', e, p⟩
      refine ⟨v, h1, k false _ _ v H _ _ noA q S2 ⟨addF_ge nF, fun a g1 g2 g3 => ⟨.refl _, ?_, ?_⟩⟩ ⟨ro.freeze (addF_ge nF) (fun a p => addF_in p) hd, fun _ z => z⟩ fun z => by cases z⟩
      · rw [addF_no fun z => g3 ⟨i, o, hr, z⟩]
        exact g2
      · rintro (z | z)
        · exact g3 (ow2 z)
        · exact z
    · exact h.elim
theorem df (i : Nat) {x : Str} (hN : X.N[i]? = some x := by rfl) (hv : Vis X.env.scope x := by first | exact Or.inl rfl | exact Or.inr (Or.inl rfl) | exact Or.inr (Or.inr rfl)) (hd : (x == ("__debug__" : Str)) = false := by decide) (hcd : (x == ("__classdict__" : Str)) = false := by decide) : DEv X pv (.Name x pos) (gFrz i) := dv_frz hN hv hd hcd
def gNeg (g : DE) : DE := fun ρ Q => g ρ fun q r ρ' => ok (asI r) fun i => Q q (.cl (.int (-i))) ρ'
theorem dv_neg {e : Expr} {g : DE} (h : DEv X pv e g) : DEv X pv (.UnaryOp .USub e pos) (gNeg g) :=
  PE.to (pe_un un_neg h) fun σ H Q ⟨ρ, F, fps, Q0, S, ex, h, k⟩ => ⟨ρ, F, fps, _, S, ex, h, fun q r ρ' v H' F' fps' f ⟨i, e, q0⟩ S' s er kq => by
    obtain ⟨rfl, nf⟩ := asI_rep er e
    exact ⟨i, rfl, k q _ ρ' _ H' F' fps' noA q0 S' s.nof ⟨.int _, fun _ z => z⟩ kq⟩⟩
/-- a, b = x, y -/
theorem ds_par2 {i j : Nat} {x y : Str} {a b : Expr} {ga : DA} {px py pt : Pos} {kt k2 pt2} (hc : X.calm = true) (hN : X.N.Nodup) (hi : X.N[i]? = some x) (hj : X.N[j]? = some y) (hij : i ≠ j) (hpi : (pv.l[i]?).join = none) (hpj : (pv.l[j]?).join = none)
    (hx : X.env.scope.names.lookup x = some .local) (hy : X.env.scope.names.lookup y = some .local) (ha : DAv X pv [a, b] ga)
    (hw : swappedStores [.Tuple [.Name x px, .Name y py] kt pt] (.Tuple [a, b] k2 pt2) X.env = pure (some [x, y]) := by rfl)
    (hs : swapsWithSole [.Tuple [.Name x px, .Name y py] kt pt] (.Tuple [a, b] k2 pt2) pos.line X.env = pure false := by rfl) : DSv X pv (.Assign [.Tuple [.Name x px, .Name y py] kt pt] (.Tuple [a, b] k2 pt2) pos) (gPar i j ga) :=
  ds_par hc hN hi hj hij hpi hpj (ps_par hc hN hi hj hij hx hy ha hw hs)
/-! ### a < b < c -/
def gChain (f f' : Env → Res → Res → Option Res) (ga gb gc : DE) : DE := fun ρ Q => gSeq2 ga gb ρ fun q r1 r2 ρ2 => ok (f ρ2 r1 r2) fun res => ok (asB res) fun b => (∃ d, r2 = .cl d) ∧ if b = true then gc ρ2 fun q3 r3 ρ3 => ok (f' ρ3 r2 r3) fun res3 => Q (q && q3) res3 ρ3 else Q q (.cl (.bool false)) ρ2
theorem chain_lift {K : Fg} {r r' : R2} {f f' : Env → Res → Res → Option Res} (h : Op2 K r f) (h' : Op2 K r' f') {pv : Pins} {ga gb gc : DE} {σ : St} {H : Hp} {Q : VK} (w : lift K pv (gChain f f' ga gb gc) σ H Q) : tChain r r' (lift K pv ga) (lift K pv gb) (lift K pv gc) σ H Q := by
  obtain ⟨ρ, F, fps, Q0, S, ex, g, k⟩ := w
  refine seq2 S ex g fun q r1 r2 ρ' x y F' H' fps' f1 f2 ⟨res, e, b, eb, ⟨d, ed⟩, q0⟩ S' s e1 e2 dj kq => ?_
  subst ed
  refine h pv F' H' σ ρ' fps' x y r1 _ res f1 f2 _ S' e1 e2 dj e fun v F2 H2 fpr G er => ?_
  have dt : Dsj (orA f1 f2) (own ρ' fps') := fun a z p => (show f1 a ∨ f2 a from z).elim (fun z => (e1.out a z).2.2.1 p) (fun z => (e2.out a z).2.2.1 p)
  have S2 := G.sta S' dt
  have s2 := G.step s
  obtain ⟨ev, nf⟩ := asB_rep er eb
  have kq2 : q = true → LamX.ExtN H H2 ∧ ρ' = ρ ∧ fps' = fps := fun z => by
    obtain ⟨a1, a2, a3⟩ := kq z
    exact ⟨a1.trans (.of G.hh), a2, a3⟩
  refine ⟨b, ev, ?_⟩
  cases b with
  | false => exact k q _ ρ' _ H2 F2 fps' noA q0 S2 s2.nof ⟨.bool false, fun _ z => z⟩ kq2
  | true =>
    rw [if_pos rfl] at q0 ⊢
    refine ⟨ρ', F2, fps', _, S2, ex.later s2, q0, fun q3 r3 ρ3 z H3 F3 fps3 f3 ⟨res3, e3, q4⟩ S3 s3 er3 k3 => ?_⟩
    have ry : RepR K F3 H3 σ (own ρ3 fps3) y (.cl d) noA := ⟨(e2.1.mono G.le).mono s3.le, fun _ z => z⟩
    refine h' pv F3 H3 σ ρ3 fps3 y z (.cl d) r3 res3 noA f3 Q S3 ry er3 (fun _ z => z.elim) e3 fun v4 F4 H4 fpr4 G4 er4 => ?_
    have dt4 : Dsj (orA noA f3) (own ρ3 fps3) := fun a z p => (show noA a ∨ f3 a from z).elim (fun z => z.elim) (fun z => (er3.out a z).2.2.1 p)
    have s23 : Step F H (own ρ fps) F3 H3 (orA (own ρ3 fps3) (orA noA f3)) := (s2.no.trans s3).less fun c z => z.elim .inl fun z => z.elim (fun z => z.elim) .inr
    exact k _ res3 ρ3 v4 H4 F4 fps3 fpr4 q4 (G4.sta S3 dt4) (G4.step s23) er4 fun z => by
      obtain ⟨a1, a2, a3⟩ := quiet_trans kq2 k3 z
      exact ⟨a1.trans (.of G4.hh), a2, a3⟩
theorem dv_chain {op op' : CmpOp} {r r' : R2} {f f' : Env → Res → Res → Option Res} {a b c : Expr} {ga gb gc : DE} (ho : OpR X (compareOp op) r) (hf : Op2 X.K r f) (ho' : OpR X (compareOp op') r') (hf' : Op2 X.K r' f') (ha : DEv X pv a ga) (hb : DEv X pv b gb) (hc : DEv X pv c gc)
    (hm : lastMarks [op, op'] [b, c] = false := by with_unfolding_all rfl) : DEv X pv (.Compare a [op, op'] [b, c] pos) (gChain f f' ga gb gc) := PE.to (pe_chain ho ho' ha hb hc hm) fun _ _ _ w => chain_lift hf hf' w
theorem dt_chain {op op' : CmpOp} {r r' : R2} {f f' : Env → Res → Res → Option Res} {a b c : Expr} {ga gb gc : DE} (ho : OpR X (compareOp op) r) (hf : Op2 X.K r f) (ho' : OpR X (compareOp op') r') (hf' : Op2 X.K r' f') (ha : DEv X pv a ga) (hb : DEv X pv b gb) (hc : DEv X pv c gc)
    (hm : lastMarks [op, op'] [b, c] = false := by with_unfolding_all rfl) : DTv X pv (.Compare a [op, op'] [b, c] pos) (gTst (gChain f f' ga gb gc)) := PT.to (pt_chain ho ho' ha hb hc hm) fun _ _ _ w => chain_lift hf hf' (tst_lift w)
end
end Dt

namespace Dt
open PySem PySem.Spec PyProof.Rows L2

/-! ### keyword calls, as expressions -/
section
variable {X : Cx} {pv : Pins} {pos p kpos : Pos} {k n m : Nat} {f : Addr} {fd : FuncData} {ps ks : List Str} {x : Str} {e : Expr} {es : List Expr} {kws : List Keyword} {ga gk : DA} {g : DE} {G : Spec} {pm : List Nat}
end
end Dt

namespace Dt
open PySem PySem.Spec PyProof.Rows L2
open Sem (wp)

/-! ### sum, max, min of a list, a tuple of ints -/
section
variable {prog : Program} {w : World} {A : Around} {E : Value → Shared → Prop} {s : Shared} {l : Addr} {its : List Value} {ns : List Int} {xs : Array (Int × Tok)} {Q : Value → Shared → Prop}
theorem iter_intTup (hl : IsTup s.heap l (intItems xs))
    (h : ∀ s₂ : Shared, s₂ = { s with heap := s.heap.push { cls := .type "tuple_iterator", data := .fields #[.ref l, .int 0 0] } } →
      (s₂.heap.IsTupleIter s.heap.objs.size l 0 ∧ s₂.heap.IsTuple l (intItems xs)) → (∀ b ∈ [s.heap.objs.size, l], b < s₂.heap.objs.size) → l ≠ s.heap.objs.size → Q (.ref s.heap.objs.size) s₂) :
    wpAny (model prog w) A (pyIter (.ref l)) Q E s := by
  have hlt : l < s.heap.objs.size := by obtain ⟨_, e, _⟩ := hl; exact Heap.lt_size e
  refine iter_tuple hl (h _ rfl ⟨⟨_, Heap.get?_push_size _ rfl, rfl, rfl⟩, ?_⟩ (fun b hb => ?_) (Nat.ne_of_lt hlt))
  · obtain ⟨o, e, c, n, d⟩ := hl
    exact ⟨o, Heap.get?_push_of_some _ e, c, n, d⟩
  · show b < (s.heap.push _).objs.size
    rw [Heap.size_push]
    rcases List.mem_cons.mp hb with rfl | hb
    · exact Nat.lt_succ_self _
    · rcases List.mem_cons.mp hb with rfl | hb
      · exact Nat.lt_succ_of_lt hlt
      · cases hb
theorem old_keptT {h' : Heap} (hk : ∀ b o, b ∉ [s.heap.objs.size] → (s.heap.push { cls := .type "tuple_iterator", data := .fields #[.ref l, .int 0 0] }).get? b = some o → h'.get? b = some o) :
    ∀ b o, s.heap.get? b = some o → h'.get? b = some o := fun b o e => by
  refine hk b o (fun hm => ?_) (Heap.get?_push_of_some _ e)
  rcases List.mem_cons.mp hm with e1 | hm
  · exact absurd (e1 ▸ Heap.lt_size e) (Nat.lt_irrefl _)
  · cases hm
theorem sum_rawT (hh : A.handled = none) (hl : IsTup s.heap l its.toArray) (hi : IntsAre its ns)
    (h : ∀ h' tk t', (∀ b o, s.heap.get? b = some o → h'.get? b = some o) → Q (.int ns.sum t') { s with heap := h', toks := tk }) : wpAny (model prog w) A (call (.builtin "sum") [.ref l]) Q E s := by
  obtain ⟨xs, e⟩ := hi.allInts.items
  have hn : numsOf (intItems xs).toList = ns := by rw [← e]; exact hi.numsOf
  rw [nums_intItems] at hn
  rw [e] at hl
  refine call_sum_walkG (iter_intTup hl fun s₂ e st hfp hlI => ?_)
  subst e
  refine ⟨_, _, _, _, _, _, numAt xs, rfl, Walks.tuple (A := A.in1) hh _ l hlI (intItems xs), st, hfp, (fun _ _ => intItems_at), fun h' tk t' hk => ?_⟩
  have := h h' tk t' (old_keptT hk)
  have e2 : preSum (numAt xs) (intItems xs).size = ns.sum := by
    rw [preSum_eq, List.take_of_length_le (by simp [intItems]), hn]
  rw [e2]
  exact this
end
def rIntsT (K : Fg) (P : List Int → Int → Prop) (N : Bool) : List V → Hp → VK → Prop := fun vs H Q => ∃ (a : Addr) (ns : List Int), vs = [V.ref a] ∧ (SqL K H a (ns.map V.int) ∨ SqT K H a (ns.map V.int)) ∧ (N = true → 0 < ns.length) ∧ ∀ m, P ns m → Q (.int m) H
abbrev isSum : List Int → Int → Prop := fun ns m => m = ns.sum
section
variable {X : Cx}
theorem call_sumA (hc : X.calm = true) : CallR X (.builtin "sum") (rIntsT X.K isSum false) := by
  intro pins s σ H vs us Q I r h
  obtain ⟨a, ns, rfl, hs, _, q⟩ := h
  rw [Vals.ref1 r]
  rcases hs with hs | hs
  · obtain ⟨its, rv, hl, _⟩ := I.list hs
    exact sum_raw (I.ok.hd hc) hl.isList rv.ints fun h' tk t' hk => ⟨.int _, H, I.kept hk, ⟨_, rfl⟩, q _ rfl⟩
  · obtain ⟨its, rv, hl, _⟩ := I.tuple hs
    exact sum_rawT (I.ok.hd hc) hl rv.ints fun h' tk t' hk => ⟨.int _, H, I.kept hk, ⟨_, rfl⟩, q _ rfl⟩
end
def intsF (f : List Int → Option Int) (ρ : Env) (rs : List Res) : Option Res := match rs with
  | [r] => (r.seq ρ).bind fun p => (intsOf p.2).bind fun is => (f is).map fun m => .cl (.int m)
  | _ => none
def maxI : List Int → Option Int
  | [] => none
  | i :: r => some (r.foldl max i)
def minI : List Int → Option Int
  | [] => none
  | i :: r => some (r.foldl min i)
theorem intsF_ok (K : Fg) {P : List Int → Int → Prop} {f : List Int → Option Int} {N : Bool} (hf : ∀ ns n, f ns = some n → (N = true → 0 < ns.length) ∧ ∀ m, P ns m → m = n) : OpN K (rIntsT K P N) (intsF f) := by
  intro pv F H σ ρ fps xs rs res tf Q S R e k
  unfold intsF at e
  split at e
  · rename_i r
    obtain ⟨v, fp, rfl, R1, _⟩ := R.one
    cases hs : r.seq ρ with
    | none => rw [hs] at e; cases e
    | some p =>
      obtain ⟨b, ds⟩ := p
      rw [hs] at e
      have e : ((intsOf ds).bind fun is => (f is).map fun m => Res.cl (.int m)) = some res := e
      cases hi : intsOf ds with
      | none => rw [hi] at e; cases e
      | some is =>
        rw [hi] at e
        have e : ((f is).map fun m => Res.cl (.int m)) = some res := e
        cases hm : f is with
        | none => rw [hm] at e; cases e
        | some n =>
          rw [hm] at e
          cases e
          obtain ⟨h1, h2⟩ := hf is n hm
          cases b with
          | true =>
            obtain ⟨a, vs, rfl, g1, g2⟩ := R1.seqL S hs
            have ev := intsOf_rep g2 hi
            subst ev
            exact ⟨a, is, rfl, .inl g1, h1, fun m hp => by rw [h2 m hp]; exact k _ F H noA (Grow.refl S.le) ⟨.int _, fun _ z => z⟩⟩
          | false =>
            obtain ⟨a, vs, rfl, g1, g2⟩ := R1.seqT S hs
            have ev := intsOf_rep g2 hi
            subst ev
            exact ⟨a, is, rfl, .inr (Same.sqT S.le g1), h1, fun m hp => by rw [h2 m hp]; exact k _ F H noA (Grow.refl S.le) ⟨.int _, fun _ z => z⟩⟩
  · cases e
theorem sum_ok (K : Fg) : OpN K (rIntsT K isSum false) (intsF fun is => some is.sum) := intsF_ok K (P := isSum) (N := false) fun ns n e => ⟨fun z => (by cases z), fun m h => (by cases e; exact h)⟩
end Dt
namespace Dt
open PySem PySem.Spec PyProof.Rows L2
theorem room_un {k : Nat} {A : Around} (r : Room k A) (c : Nat) (h : c ≤ 200 := by decide) : A.units + c < cLine := by have := r.un; omega
end Dt

namespace Dt
open PySem PySem.Spec PyProof.Rows L2

/-! ### a, b, c = x, y, z -/
def gPar3 (i j l : Nat) (ga : DA) : DS := fun D ρ => ga ρ fun _ rs ρ' => match rs with
  | [r1, r2, r3] => (i < ρ'.length ∧ j < ρ'.length ∧ l < ρ'.length) ∧ ok (keepR ρ' r1) fun o1 => ok (keepR ρ' r2) fun o2 => ok (keepR ρ' r3) fun o3 => D.nx (((ρ'.set i (some o1)).set j (some o2)).set l (some o3))
  | _ => False
section
variable {X : Cx} {pv : Pins} {pos : Pos}
theorem ds_par3 {i j l : Nat} {x y z : Str} {a b c : Expr} {ga : DA} {px py pz pt : Pos} {kt k2 pt2} (hc : X.calm = true) (hN : X.N.Nodup) (hi : X.N[i]? = some x) (hj : X.N[j]? = some y) (hl : X.N[l]? = some z) (hij : i ≠ j) (hil : i ≠ l) (hjl : j ≠ l)
    (hpi : (pv.l[i]?).join = none) (hpj : (pv.l[j]?).join = none) (hpl : (pv.l[l]?).join = none)
    (hx : X.env.scope.names.lookup x = some .local) (hy : X.env.scope.names.lookup y = some .local) (hz : X.env.scope.names.lookup z = some .local) (ha : DAv X pv [a, b, c] ga)
    (hw : swappedStores [.Tuple [.Name x px, .Name y py, .Name z pz] kt pt] (.Tuple [a, b, c] k2 pt2) X.env = pure (some [x, y, z]) := by rfl)
    (hs : swapsWithSole [.Tuple [.Name x px, .Name y py, .Name z pz] kt pt] (.Tuple [a, b, c] k2 pt2) pos.line X.env = pure false := by rfl) : DSv X pv (.Assign [.Tuple [.Name x px, .Name y py, .Name z pz] kt pt] (.Tuple [a, b, c] k2 pt2) pos) (gPar3 i j l ga) :=
  PS.to (ps_par3 hc hN hi hj hl hij hil hjl hx hy hz ha hw hs) fun D σ H ⟨ρ, F, fps, D0, S, h, en⟩ => by
    refine ⟨ρ, F, fps, _, S, en.ex, h, fun q rs ρ' vs H' F' fps' f q0 S' s er _ => ?_⟩
    match rs, q0, er with
    | [r1, r2, r3], ⟨⟨l1, l2, l3⟩, o1, e1, o2, e2, o3, e3, q0⟩, er =>
      match vs, er with
      | [v, w, u], ⟨f1, f2, R1, ⟨f3, f4, R2, ⟨f5, f6, R3, hn, _, ef3⟩, dj2, ef2⟩, dj, ef⟩ =>
        refine ⟨v, w, u, rfl, ?_⟩
        have ro1 := keepR_rep S' R1 e1
        have ro2 := keepR_rep S' R2 e2
        have ro3 := keepR_rep S' R3 e3
        have t2 : ∀ {b : Addr}, f3 b → f2 b := fun {b} z => (ef2 b).mpr (.inl z)
        have t3 : ∀ {b : Addr}, f5 b → f4 b := fun {b} z => (ef3 b).mpr (.inl z)
        have t4 : ∀ {b : Addr}, f4 b → f2 b := fun {b} z => (ef2 b).mpr (.inr z)
        obtain ⟨S1, o1'⟩ := S'.put (noPin hpi) l1 ro1 fun b p => (R1.out b p).2.2.1
        obtain ⟨S2, o2'⟩ := S1.put (noPin hpj) (by rw [List.length_set]; exact l2) ro2 fun b p z => by
          rcases o1' b z with z | z
          · exact (R2.out b p).2.2.1 z
          · exact dj b z (t2 p)
        obtain ⟨S3, o3'⟩ := S2.put (noPin hpl) (by rw [List.length_set, List.length_set]; exact l3) ro3 fun b p z => by
          rcases o2' b z with z | z
          · rcases o1' b z with z | z
            · exact (R3.out b p).2.2.1 z
            · exact dj b z (t4 (t3 p))
          · exact dj2 b z (t3 p)
        refine en.nx _ _ H' F' _ q0 S3 (s.less fun b z => ?_)
        rcases o3' b z with z | z
        · rcases o2' b z with z | z
          · rcases o1' b z with z | z
            · exact .inl z
            · exact .inr ((ef b).mpr (.inl z))
          · exact .inr ((ef b).mpr (.inr (t2 z)))
        · exact .inr ((ef b).mpr (.inr (t4 (t3 z))))
end
end Dt

namespace Dt
open PySem PySem.Spec PyProof.Rows

/-! ### going through what a def's text tells: one lemma for each form -/
section
variable {ρ ρ1 : Env} {D : DEnds} {Q : Bool → Res → Env → Prop} {QT : Bool → Bool → Env → Prop} {QA : Bool → List Res → Env → Prop} {g ga gb gc : DE} {gs : DA} {t ta tb : DT} {a b : DS} {i j l n : Nat} {d : PyData} {f : Env → Res → Res → Option Res} {fn : Env → List Res → Option Res} {q : Bool} {r r1 r2 : Res} {rs : List Res}
theorem ok_i {α : Type} {o : Option α} {x : α} {R : α → Prop} (e : o = some x) (k : R x) : ok o R := ⟨x, e, k⟩
theorem gSeq_i (h : a { nx := fun ρ1 => b D ρ1, rt := D.rt, ct := D.ct } ρ) : gSeq a b D ρ := h
theorem gNext_i {nx : Env → Prop} {rt : Res → Env → Prop} {ct : Env → Prop} (h : nx ρ) : gNext { nx := nx, rt := rt, ct := ct } ρ := h
theorem gCont_i {nx : Env → Prop} {rt : Res → Env → Prop} {ct : Env → Prop} (h : ct ρ) : gCont { nx := nx, rt := rt, ct := ct } ρ := h
theorem gRet_i {nx : Env → Prop} {rt : Res → Env → Prop} {ct : Env → Prop} (h : g ρ fun _ r ρ' => rt r ρ') : gRet g { nx := nx, rt := rt, ct := ct } ρ := h
theorem gRetN_i {nx : Env → Prop} {rt : Res → Env → Prop} {ct : Env → Prop} (h : rt (.cl .none) ρ) : gRetN { nx := nx, rt := rt, ct := ct } ρ := h
theorem gExpr_i {nx : Env → Prop} {rt : Res → Env → Prop} {ct : Env → Prop} (h : g ρ fun _ _ ρ' => nx ρ') : gExpr g { nx := nx, rt := rt, ct := ct } ρ := h
theorem gIf_i (h : t ρ fun _ c ρ' => if c = true then a D ρ' else b D ρ') : gIf t a b D ρ := h
abbrev setK (i : Nat) (r : Res) (ρ : Env) (K : Env → Prop) : Prop := ok (setOV ρ i r) K
theorem gSet_i {nx : Env → Prop} {rt : Res → Env → Prop} {ct : Env → Prop} (h : g ρ fun _ r ρ' => setK i r ρ' nx) : gSet i g { nx := nx, rt := rt, ct := ct } ρ := h
theorem setK_i {o : OV} {K : Env → Prop} (e : keepR ρ r = some o) (hl : i < ρ.length) (k : K (ρ.set i (some o))) : setK i r ρ K := by
  unfold setK setOV
  rw [if_pos hl, e]
  exact ⟨_, rfl, k⟩
theorem gRtD_rt {io : List Bool} {Q0 : Res → Env → Prop} (e : retR io ρ r = some r1) (h : Q0 r1 (maskE io ρ)) : (rtD io Q0).rt r ρ := ⟨_, e, h⟩
theorem gRtD_nx {io : List Bool} {Q0 : Res → Env → Prop} (h : Q0 (.cl .none) (maskE io ρ)) : (rtD io Q0).nx ρ := h
theorem gTst_i (h : g ρ fun q r ρ' => ok (asB r) fun b => QT q b ρ') : gTst g ρ QT := h
theorem gNot_i (h : ta ρ fun q b ρ' => QT q (!b) ρ') : gNot ta ρ QT := h
theorem gAnd_i (h : ta ρ fun q1 b1 ρ1 => if b1 = true then tb ρ1 fun q2 b2 ρ2 => QT (q1 && q2) b2 ρ2 else QT q1 false ρ1) : gAnd ta tb ρ QT := h
theorem gOr_i (h : ta ρ fun q1 b1 ρ1 => if b1 = true then QT q1 true ρ1 else tb ρ1 fun q2 b2 ρ2 => QT (q1 && q2) b2 ρ2) : gOr ta tb ρ QT := h
theorem gVar_i (e : slotR ρ i = some r) (h : Q true r ρ) : gVar i ρ Q := ⟨_, e, h⟩
theorem gC_i (h : Q true (.cl d) ρ) : gC d ρ Q := h
abbrev opK (f : Env → Res → Res → Option Res) (q : Bool) (r1 r2 : Res) (ρ : Env) (Q : Bool → Res → Env → Prop) : Prop := ok (f ρ r1 r2) fun res => Q q res ρ
theorem gOp_i (h : ga ρ fun q1 r1 ρ1 => gb ρ1 fun q2 r2 ρ2 => (r1.deep = true → q2 = true) ∧ opK f (q1 && q2) r1 r2 ρ2 Q) : gOp f ga gb ρ Q := h
theorem opK_i (e : f ρ r1 r2 = some r) (k : Q q r ρ) : opK f q r1 r2 ρ Q := ⟨_, e, k⟩
abbrev fnK (fn : Env → List Res → Option Res) (q : Bool) (rs : List Res) (ρ : Env) (Q : Bool → Res → Env → Prop) : Prop := ok (fn ρ rs) fun res => Q q res ρ
theorem gN_i (h : gs ρ fun q rs ρ1 => fnK fn q rs ρ1 Q) : gN fn gs ρ Q := h
theorem fnK_i (e : fn ρ rs = some r) (k : Q q r ρ) : fnK fn q rs ρ Q := ⟨_, e, k⟩
theorem gNil_i (h : QA true [] ρ) : gNil ρ QA := h
theorem gCons_i (h : g ρ fun q1 r ρ1 => gs ρ1 fun q2 rs ρ2 => (r.deep = true → q2 = true) ∧ QA (q1 && q2) (r :: rs) ρ2) : gCons g gs ρ QA := h
theorem gFz_i (h : g ρ fun q r ρ' => ok (frzR r) fun r' => Q q r' ρ') : gFz g ρ Q := h
theorem gIfE_i (h : t ρ fun q b ρ1 => if b = true then ga ρ1 fun q2 r ρ2 => Q (q && q2) r ρ2 else gb ρ1 fun q2 r ρ2 => Q (q && q2) r ρ2) : gIfE t ga gb ρ Q := h
theorem gNotV_i (h : ga ρ fun q r ρ' => ok (asB r) fun b => Q q (.cl (.bool (!b))) ρ') : gNotV ga ρ Q := h
theorem gNeg_i (h : ga ρ fun q r ρ' => ok (asI r) fun i => Q q (.cl (.int (-i))) ρ') : gNeg ga ρ Q := h
abbrev callK (G : Spec) (n : Nat) (q : Bool) (rs : List Res) (ρ : Env) (Q : Bool → Res → Env → Prop) : Prop := ok (argOs ρ rs) fun os => (slNd rs = true ∧ rs.length = n) ∧ G os fun r ρf => Q (q && noSl rs) r (back ρ rs ρf)
variable {G : Spec} {os : List OV} {pm : List Nat} {gk : DA} {m : Nat}
theorem gCall_i (h : gs ρ fun q rs ρ1 => callK G n q rs ρ1 Q) : gCall G n gs ρ Q := h
abbrev callKK (G : Spec) (n : Nat) (pm : List Nat) (q1 q2 : Bool) (rs ks : List Res) (ρ : Env) (Q : Bool → Res → Env → Prop) : Prop := (rs.all (fun r => !r.deep) = true ∧ (rs ++ ks).length = n) ∧ ok (argOs ρ (permL pm (rs ++ ks))) fun os => (slNd (permL pm (rs ++ ks)) = true ∧ (permL pm (rs ++ ks)).length = n) ∧
  G os fun r ρf => Q (q1 && (q2 && noSl (permL pm (rs ++ ks)))) r (back ρ (permL pm (rs ++ ks)) ρf)
theorem gCallK_i (h : gs ρ fun q1 rs ρ1 => rs.length = m ∧ gk ρ1 fun q2 ks ρ2 => callKK G n pm q1 q2 rs ks ρ2 Q) : gCallK G n m pm gs gk ρ Q := h
end
end Dt

namespace Dt
open PySem PySem.Spec PyProof.Rows

/-! ### going on: loops, operators with conditions -/
section
variable {ρ ρ1 ρ0 : Env} {D : DEnds} {Q : Bool → Res → Env → Prop} {QT : Bool → Bool → Env → Prop} {QA : Bool → List Res → Env → Prop} {g ga gb gc gd gk gv : DE} {gs : DA} {t ta tb : DT} {a b : DS} {i j : Int} {l n : Nat} {d e : PyData} {f : OV → OV → Option Res} {fd : PyData → PyData → Option Bool} {fn : Env → List Res → Option Res} {q neg : Bool} {r r1 r2 : Res} {rs : List Res}
  {o1 o2 : OV} {ds es items : List PyData} {c : Bool} {A B : Prop} {tg : DG} {fg vs : List Nat} {body : DS} {gi : DI}
theorem ite_t (h : c = true) (k : A) : if c = true then A else B := by rw [if_pos h]; exact k
theorem ite_f (h : c = false) (k : B) : if c = true then A else B := by subst h; exact k
theorem lift2_e (h1 : r1.ov ρ = some o1) (h2 : r2.ov ρ = some o2) (h3 : f o1 o2 = some r) : lift2 f ρ r1 r2 = some r := by unfold lift2; rw [h1, h2]; exact h3
theorem dat2_e {r : Bool} (h1 : r1.dat ρ = some d) (h2 : r2.dat ρ = some e) (h3 : fd d e = some r) : dat2 fd ρ r1 r2 = some (.cl (.bool r)) := by unfold dat2; rw [h1, h2]; show (fd d e).map _ = _; rw [h3]; rfl
theorem mulI (h : cMul i j = true) : mulO (.fr (.int i)) (.fr (.int j)) = some (.cl (.int (i * j))) := by show (if cMul i j = true then _ else _) = _; rw [if_pos h]
theorem intO_e {c : Int → Int → Bool} {g : Int → Int → Int} (h : c i j = true) : intO c g (.fr (.int i)) (.fr (.int j)) = some (.cl (.int (g i j))) := by show (if c i j = true then _ else _) = _; rw [if_pos h]
theorem addT {a b : List PyData} (h : a.length + b.length ≤ sizeLine) : addO (.fr (.tuple a)) (.fr (.tuple b)) = some (.cl (.tuple (a ++ b))) := by show (if _ then _ else _) = _; rw [if_pos h]
theorem addL {a b : List PyData} (e1 : o1.lsv = some a) (e2 : o2.lsv = some b) (h : a.length + b.length ≤ sizeLine) : addO o1 o2 = some (.fr (.lst (a ++ b))) := by
  have : addO o1 o2 = match o1.lsv, o2.lsv with
    | some a, some b => if a.length + b.length ≤ sizeLine then some (.fr (.lst (a ++ b))) else none
    | _, _ => none := by
    unfold addO
    split
    · cases e1
    · cases e1
    · cases e1
    · cases e1
    · rfl
  rw [this, e1, e2]
  show (if _ then _ else _) = _
  rw [if_pos h]
theorem eq_e (h1 : SeqAt.shaped d = true) (h2 : SeqAt.shaped e = true) : eqD neg d e = some (if neg = true then !PyData.eqv d e else PyData.eqv d e) := by unfold eqD; rw [if_pos ⟨h1, h2⟩]
theorem inT_e (h1 : SeqAt.shaped d = true) (h2 : SeqAt.shaped (.tuple ds) = true) : inD neg d (.tuple ds) = some (if neg = true then !anyEq ds d else anyEq ds d) := by show (if _ then _ else _) = _; rw [if_pos ⟨h1, h2⟩]
theorem inL_e (h1 : SeqAt.shaped d = true) (h2 : SeqAt.shaped (.list ds) = true) : inD neg d (.list ds) = some (if neg = true then !anyEq ds d else anyEq ds d) := by show (if _ then _ else _) = _; rw [if_pos ⟨h1, h2⟩]
theorem mkTup_e (e : clns ρ rs = some ds) (h : ds.length ≤ sizeLine) : mkTup ρ rs = some (.cl (.tuple ds)) := by unfold mkTup; rw [e]; show (if _ then _ else _) = _; rw [if_pos h]
theorem mkLst_e (e : clns ρ rs = some ds) (h : ds.length ≤ sizeLine) : mkLst ρ rs = some (.fr (.lst ds)) := by unfold mkLst; rw [e]; show (if _ then _ else _) = _; rw [if_pos h]
theorem repr_e (e : r.dat ρ = some d) (h1 : d.showable = true) (h2 : d.shown.length ≤ sizeLine) (h3 : d.depth ≤ 60) : dat1 reprD ρ [r] = some (.cl (.str d.shown)) := by
  unfold dat1; simp only [e]
  unfold reprD
  rw [if_pos ⟨⟨h1, h2⟩, h3⟩]
  rfl
theorem upAppend_e (h : ds.length < sizeLine) : upAppend ds [d] = some (ds ++ [d], .none) := by show (if _ then _ else _) = _; rw [if_pos h]
theorem small {n m : Nat} (h : n ≤ m) (hm : m ≤ 16777216 := by decide) : n ≤ sizeLine := by rw [sizeLine_eq]; omega
theorem ix_e (e1 : r1.ov ρ = some o1) (e2 : r2.ov ρ = some (.fr (.int i))) {isL : Bool} (es : o1.seq = some (isL, ds)) (h : L2.atI ds i = some d) : ixR ρ r1 r2 = some (.cl d) := by
  unfold ixR
  rw [e1, e2]
  have hn : ∀ z, o1 ≠ .fr (.str z) := fun z h => by subst h; cases es
  split
  · rename_i z _ h1 _; exact absurd (Option.some.inj h1) (hn z)
  · rename_i o i' _ h1 h2
    cases h1
    cases h2
    rw [es]
    show (L2.atI ds i).map _ = _
    rw [h]
    rfl
  · rename_i h1 h2; exact absurd rfl (h2 _ _ rfl)
theorem atI_nat (h0 : 0 ≤ i) (h : ds[i.toNat]? = some d) : L2.atI ds i = some d := by
  have hl := (List.getElem?_eq_some_iff.mp h).1
  unfold L2.atI L2.ixN
  rw [if_pos (by omega), if_pos (by omega)]
  exact h
theorem gFor_i (h : gi ρ fun items ρ' => forL tg fg body D items ρ') : gFor gi tg fg body D ρ := h
/-- a loop: what holds ahead of each pass -/
theorem forL_inv (I : Nat → Env → Prop) (h0 : I 0 ρ) (hs : ∀ k x ρ, items[k]? = some x → I k ρ → ∀ K : Env → Prop, (∀ ρ2, I (k + 1) (wipeE ρ2 fg) → K ρ2) → tg x ρ fun ρ1 => body { nx := K, rt := D.rt, ct := K } ρ1)
    (he : ∀ ρ, I items.length ρ → D.nx ρ) : forL tg fg body D items ρ := by
  have main : ∀ (xs : List PyData) (k : Nat) (ρ : Env), (∀ j, xs[j]? = items[k + j]?) → k + xs.length = items.length → I k ρ → forL tg fg body D xs ρ := by
    intro xs
    induction xs with
    | nil => intro k ρ _ hl hi; exact he ρ (by have hl : k = items.length := hl; rw [← hl]; exact hi)
    | cons x xs ih =>
      intro k ρ hx hl hi
      refine hs k x ρ (by have := hx 0; rw [List.getElem?_cons_zero, Nat.add_zero] at this; exact this.symm) hi (fun ρ2 => forL tg fg body D xs (wipeE ρ2 fg)) fun ρ2 h2 => ?_
      refine ih (k + 1) _ (fun j => ?_) (by rw [List.length_cons] at hl; omega) h2
      rw [show k + 1 + j = k + (j + 1) by omega, ← hx (j + 1), List.getElem?_cons_succ]
  exact main items 0 ρ (fun j => by rw [Nat.zero_add]) (Nat.zero_add _) h0
def lcK (vs : List Nat) (tg : DG) (tt : DT) (el : DE) (items : List PyData) (ρ : Env) (Q : Bool → Res → Env → Prop) : Prop := lcL vs tg tt el (fun ds ρ2 => Q false (.fr (.lst ds)) (wipeE ρ2 vs)) items ρ []
theorem gLc_i (h : gi ρ fun items ρ1 => lcK vs tg t g items ρ1 Q) : gLc vs gi tg t g ρ Q := h
/-- a list that is told item by item, the names as they were -/
theorem lcK_pure (ρ0 : Env) (fm : PyData → Option PyData) (e : wipeE ρ vs = ρ0) (hl : items.length ≤ sizeLine)
    (hs : ∀ x, x ∈ items → ∀ (K1 : Env → PyData → Prop) (K0 : Env → Prop), (∀ ρ2 d, wipeE ρ2 vs = ρ0 → fm x = some d → K1 ρ2 d) → (∀ ρ2, wipeE ρ2 vs = ρ0 → fm x = none → K0 ρ2) →
      tg x ρ0 fun ρ1 => t ρ1 fun _ b ρ2 => if b = true then g ρ2 fun _ r ρ3 => ok (r.cln ρ3) fun d => K1 ρ3 d else K0 ρ2)
    (k : Q false (.fr (.lst (items.filterMap fm))) ρ0) : lcK vs tg t g items ρ Q := by
  have main : ∀ (xs : List PyData) (ρ : Env) (acc : List PyData), (∀ x, x ∈ xs → x ∈ items) → acc.length + xs.length ≤ items.length → wipeE ρ vs = ρ0 → acc ++ xs.filterMap fm = items.filterMap fm → lcL vs tg t g (fun ds ρ2 => Q false (.fr (.lst ds)) (wipeE ρ2 vs)) xs ρ acc := by
    intro xs
    induction xs with
    | nil =>
      intro ρ acc _ _ e1 e2
      rw [List.filterMap_nil, List.append_nil] at e2
      show Q false (.fr (.lst acc)) (wipeE ρ vs)
      rw [e1, e2]
      exact k
    | cons x xs ih =>
      intro ρ acc hm hz e1 e2
      show tg x (wipeE ρ vs) _
      rw [e1]
      rw [List.length_cons] at hz
      refine hs x (hm x List.mem_cons_self) (fun ρ3 d => acc.length < sizeLine ∧ lcL vs tg t g _ xs ρ3 (acc ++ [d])) (fun ρ2 => lcL vs tg t g _ xs ρ2 acc) (fun ρ2 d e3 e4 => ⟨by omega, ?_⟩) fun ρ2 e3 e4 => ?_
      · refine ih _ _ (fun y hy => hm y (List.mem_cons_of_mem _ hy)) (by rw [List.length_append, List.length_singleton]; omega) e3 ?_
        rw [List.append_assoc, ← e2, List.filterMap_cons, e4]
        rfl
      · refine ih _ _ (fun y hy => hm y (List.mem_cons_of_mem _ hy)) (by omega) e3 ?_
        rw [← e2, List.filterMap_cons, e4]
  exact main items ρ [] (fun x h => h) (by rw [List.length_nil]; omega) e (List.nil_append _)
end
end Dt

namespace Dt
open PySem PySem.Spec PyProof.Rows

/-! ### going on: dicts, methods, slices, targets -/
section
variable {ρ ρ1 ρ0 : Env} {D : DEnds} {Q : Bool → Res → Env → Prop} {QT : Bool → Bool → Env → Prop} {QA : Bool → List Res → Env → Prop} {QI : List PyData → Env → Prop} {QO : Bool → Option Int → Env → Prop} {g ga gb gc gd gk gv : DE} {gs : DA} {t ta tb : DT} {a b : DS} {i j l n : Nat} {d e : PyData} {f f' : Env → Res → Res → Option Res} {q neg : Bool} {r r1 r2 r3 res : Res} {rs : List Res}
  {o o1 o2 o3 : OV} {ds es ds2 items : List PyData} {c : Bool} {A B : Prop} {tg : DG} {tgs : DGs} {k : L2.Key} {p : List PK} {kvs : List (L2.Key × OV)} {gl gh : DO} {lo hi : Option Int} {T : String}
theorem ite_b (h1 : c = true → A) (h2 : c = false → B) : if c = true then A else B := by
  cases c with
  | true => exact h1 rfl
  | false => exact h2 rfl
abbrev dgetK (q : Bool) (r1 r2 : Res) (ρ : Env) (Q : Bool → Res → Env → Prop) : Prop := ok (r2.cln ρ) fun d => ok (keyD d) fun k => ok (dAt ρ r1 k) fun res => Q q res ρ
theorem gDGet_i (h : gd ρ fun q1 r1 ρ1 => gk ρ1 fun q2 r2 ρ2 => (r1.deep = true → q2 = true) ∧ dgetK (q1 && q2) r1 r2 ρ2 Q) : gDGet gd gk ρ Q := h
abbrev methK (up : List PyData → List PyData → Option (List PyData × PyData)) (r : Res) (rs : List Res) (ρ : Env) (Q : Bool → Res → Env → Prop) : Prop := ok (lstAt ρ r) fun t => ok (clns ρ rs) fun es => ok (up t.2.2 es) fun u => Q false (.cl u.2) (putAt ρ t.1 t.2.1 (.lst u.1))
variable {up : List PyData → List PyData → Option (List PyData × PyData)}
theorem gMeth_i (h : g ρ fun q1 r ρ1 => (lstAt ρ1 r).isSome = true ∧ gs ρ1 fun q2 rs ρ2 => (r.deep = true → q2 = true) ∧ methK up r rs ρ2 Q) : gMeth up g gs ρ Q := h
abbrev dputK (q : Bool) (rv rd rk : Res) (ρ : Env) (K : Env → Prop) : Prop := (rv.deep = false ∨ q = true) ∧ ok (rk.cln ρ) fun dk => ok (keyD dk) fun k => ok (keepR ρ rv) fun o => ok (dctAt ρ rd) fun t => (ndK t.2.2 = true ∧ t.2.2.length < sizeLine) ∧ K (putAt ρ t.1 t.2.1 (.dct (putKO t.2.2 k o)))
theorem gDPut_i {nx : Env → Prop} {rt : Res → Env → Prop} {ct : Env → Prop} (h : gv ρ fun _ rv ρ1 => gd ρ1 fun q1 rd ρ2 => gk ρ2 fun q2 rk ρ3 => (rd.deep = true → q2 = true) ∧ dputK (q1 && q2) rv rd rk ρ3 nx) : gDPut gd gk gv { nx := nx, rt := rt, ct := ct } ρ := h
abbrev dispK (ps : List (L2.Key × Res)) (ρ : Env) (Q : Bool → Res → Env → Prop) : Prop := ok (keeps ρ ps) fun os => (ndK os = true ∧ os.length ≤ 15) ∧ Q false (.fr (.dct os)) ρ
variable {kgs : List (L2.Key × DE)} {QP : List (L2.Key × Res) → Env → Prop} {ps : List (L2.Key × Res)}
theorem gDisp_i (h : gPairs kgs ρ fun ps ρ2 => dispK ps ρ2 Q) : gDisp kgs ρ Q := h
theorem gPairs_nil (h : QP [] ρ) : gPairs [] ρ QP := h
theorem gPairs_cons (h : g ρ fun _ v ρ1 => v.deep = false ∧ gPairs kgs ρ1 fun ps ρ2 => QP ((k, v) :: ps) ρ2) : gPairs ((k, g) :: kgs) ρ QP := h
abbrev rdmK (f : Bool → List PyData → List PyData → Option PyData) (q : Bool) (r : Res) (rs : List Res) (ρ : Env) (Q : Bool → Res → Env → Prop) : Prop := ok (rdR f ρ r rs) fun res => Q q res ρ
variable {isL : Bool} {fr : Bool → List PyData → List PyData → Option PyData}
theorem gRdM_i (h : g ρ fun q1 r ρ1 => (∃ ds, r.seq ρ1 = some (isL, ds)) ∧ gs ρ1 fun q2 rs ρ2 => (r.deep = true → q2 = true) ∧ rdmK fr (q1 && q2) r rs ρ2 Q) : gRdM isL fr g gs ρ Q := h
theorem gNoPart_i (h : QO true none ρ) : gNoPart ρ QO := h
theorem gPart_i (h : g ρ fun q r ρ' => ok (asI r) fun i => QO q (some i) ρ') : gPart g ρ QO := h
abbrev sliceK (q : Bool) (r : Res) (lo hi : Option Int) (ρ : Env) (Q : Bool → Res → Env → Prop) : Prop := ok (r.ov ρ) fun o => ok (sliceO o lo hi) fun res => Q q res ρ
theorem gSlice_i (h : g ρ fun q r ρ1 => gl ρ1 fun q1 lo ρ2 => gh ρ2 fun q2 hi ρ3 => (r.deep = true → (q1 && q2) = true) ∧ sliceK (q && (q1 && q2)) r lo hi ρ3 Q) : gSlice g gl gh ρ Q := h
theorem gStar_i (h : g ρ fun q1 r ρ1 => ok (r.cln ρ1) fun d => (∃ ds, (d = .tuple ds ∨ d = .list ds) ∧ gs ρ1 fun q2 rs ρ2 => QA (q1 && q2) (ds.map Res.cl ++ rs) ρ2)) : gStar g gs ρ QA := h
theorem star_t {R : List PyData → Prop} (h : R ds) : ∃ ds', (PyData.tuple ds = .tuple ds' ∨ PyData.tuple ds = .list ds') ∧ R ds' := ⟨ds, .inl rfl, h⟩
theorem star_l {R : List PyData → Prop} (h : R ds) : ∃ ds', (PyData.list ds = .tuple ds' ∨ PyData.list ds = .list ds') ∧ R ds' := ⟨ds, .inr rfl, h⟩
theorem gIsi_i (h : g ρ fun q r ρ' => ok (r.dat ρ') fun d => Q q (.cl (.bool (isT T d))) ρ') : gIsi T g ρ Q := h
theorem gChain_i (h : ga ρ fun q1 r1 ρ1 => gb ρ1 fun q2 r2 ρ2 => (r1.deep = true → q2 = true) ∧ ok (f ρ2 r1 r2) fun res => ok (asB res) fun b => (∃ d, r2 = .cl d) ∧ if b = true then gc ρ2 fun q3 r3 ρ3 => ok (f' ρ3 r2 r3) fun res3 => Q ((q1 && q2) && q3) res3 ρ3 else Q (q1 && q2) (.cl (.bool false)) ρ2) : gChain f f' ga gb gc ρ Q := h
theorem cl_ex {d : PyData} {A : Prop} (h : A) : (∃ d', Res.cl d = .cl d') ∧ A := ⟨⟨d, rfl⟩, h⟩
theorem giSeq_i (h : g ρ fun _ r ρ' => ok (itemsR ρ' r) fun p => p.1 = isL ∧ QI p.2 ρ') : giSeq isL g ρ QI := h
theorem giAny_i (h : g ρ fun _ r ρ' => ok (itemsR ρ' r) fun p => QI p.2 ρ') : giAny g ρ QI := h
theorem giRng1_i (h : gs ρ fun _ rs ρ' => ok (intsR rs) fun is => ∃ j, is = [j] ∧ B62 j ∧ QI (rangeD 0 j.toNat) ρ') : giRng1 gs ρ QI := h
theorem giRng2_i (h : gs ρ fun _ rs ρ' => ok (intsR rs) fun is => ∃ i j, is = [i, j] ∧ B62 i ∧ B62 j ∧ QI (rangeD i (j - i).toNat) ρ') : giRng2 gs ρ QI := h
theorem rng1 {j : Int} {R : Int → Prop} (h1 : B62 j) (h : R j) : ∃ j', [j] = [j'] ∧ B62 j' ∧ R j' := ⟨j, rfl, h1, h⟩
theorem rng2 {i j : Int} {R : Int → Int → Prop} (h1 : B62 i) (h2 : B62 j) (h : R i j) : ∃ i' j', [i, j] = [i', j'] ∧ B62 i' ∧ B62 j' ∧ R i' j' := ⟨i, j, rfl, h1, h2, h⟩
theorem b62 {i : Int} (h : -1000000000 ≤ i) (h2 : i ≤ 1000000000) : B62 i := ⟨by omega, by omega⟩
abbrev parK (i j : Nat) (rs : List Res) (ρ : Env) (K : Env → Prop) : Prop := match rs with
  | [r1, r2] => (i < ρ.length ∧ j < ρ.length) ∧ ok (keepR ρ r1) fun o1 => ok (keepR ρ r2) fun o2 => K ((ρ.set i (some o1)).set j (some o2))
  | _ => False
theorem gPar_i {nx : Env → Prop} {rt : Res → Env → Prop} {ct : Env → Prop} (h : gs ρ fun _ rs ρ' => parK i j rs ρ' nx) : gPar i j gs { nx := nx, rt := rt, ct := ct } ρ := h
theorem parK_i {K : Env → Prop} (h1 : i < ρ.length) (h2 : j < ρ.length) (e1 : keepR ρ r1 = some o1) (e2 : keepR ρ r2 = some o2) (h : K ((ρ.set i (some o1)).set j (some o2))) : parK i j [r1, r2] ρ K := ⟨⟨h1, h2⟩, _, e1, _, e2, h⟩
abbrev parK3 (i j l : Nat) (rs : List Res) (ρ : Env) (K : Env → Prop) : Prop := match rs with
  | [r1, r2, r3] => (i < ρ.length ∧ j < ρ.length ∧ l < ρ.length) ∧ ok (keepR ρ r1) fun o1 => ok (keepR ρ r2) fun o2 => ok (keepR ρ r3) fun o3 => K (((ρ.set i (some o1)).set j (some o2)).set l (some o3))
  | _ => False
theorem gPar3_i {nx : Env → Prop} {rt : Res → Env → Prop} {ct : Env → Prop} (h : gs ρ fun _ rs ρ' => parK3 i j l rs ρ' nx) : gPar3 i j l gs { nx := nx, rt := rt, ct := ct } ρ := h
theorem parK3_i {K : Env → Prop} (h1 : i < ρ.length) (h2 : j < ρ.length) (h3 : l < ρ.length) (e1 : keepR ρ r1 = some o1) (e2 : keepR ρ r2 = some o2) (e3 : keepR ρ r3 = some o3) (h : K (((ρ.set i (some o1)).set j (some o2)).set l (some o3))) : parK3 i j l [r1, r2, r3] ρ K := ⟨⟨h1, h2, h3⟩, _, e1, _, e2, _, e3, h⟩
theorem gAsg_i {nx : Env → Prop} {rt : Res → Env → Prop} {ct : Env → Prop} (h : g ρ fun _ r ρ' => ok (r.cln ρ') fun d => tg d ρ' nx) : gAsg g tg { nx := nx, rt := rt, ct := ct } ρ := h
theorem tgName_i {K : Env → Prop} (h1 : i < ρ.length) (h : K (ρ.set i (some (.fr d)))) : tgName i d ρ K := ⟨h1, h⟩
theorem tgTup_i {K : Env → Prop} (h1 : ds.length = n) (h : tgs ds ρ K) : tgTup n tgs (.tuple ds) ρ K := ⟨h1, h⟩
theorem tgsNil_i {K : Env → Prop} (h : K ρ) : tgsNil [] ρ K := ⟨rfl, h⟩
theorem tgsCons_i {K : Env → Prop} (h : tg d ρ fun ρ1 => tgs ds ρ1 K) : tgsCons tg tgs (d :: ds) ρ K := h
theorem tgSub_i {K : Env → Prop} (h : ga ρ fun _ r ρ1 => r.deep = false ∧ gb ρ1 fun _ ri ρ2 => ok (lstAt ρ2 r) fun t => ok (asI ri) fun i => ok (L2.ixN t.2.2.length i) fun j => K (putAt ρ2 t.1 t.2.1 (.lst (t.2.2.set j d)))) : tgSub ga gb d ρ K := h
theorem gYes_i (h : QT true true ρ) : gYes ρ QT := h
theorem gAndV_i (h : ga ρ fun q1 r1 ρ1 => ok (asB r1) fun b1 => if b1 = true then gb ρ1 fun q2 r2 ρ2 => Q (q1 && q2) r2 ρ2 else Q q1 (.cl (.bool false)) ρ1) : gAndV ga gb ρ Q := h
theorem gOrV_i (h : ga ρ fun q1 r1 ρ1 => ok (asB r1) fun b1 => if b1 = true then Q q1 (.cl (.bool true)) ρ1 else gb ρ1 fun q2 r2 ρ2 => Q (q1 && q2) r2 ρ2) : gOrV ga gb ρ Q := h
end
end Dt

namespace Dt
open PySem PySem.Spec PyProof.Rows
/-- what a bag of draws holds -/
structure Bag where
  great : List Int
  seed : Int
  turn : Int
def Bag.ov (b : Bag) : OV := .dct [(.inr "great", .lst (b.great.map .int)), (.inr "seed", .fr (.int b.seed)), (.inr "turn", .fr (.int b.turn))]
def Bag.fine (b : Bag) : Prop := b.great.length ≤ 63
theorem cut_take {α : Type} (xs : List α) (k : Nat) : Dt.cutD xs none (some (k : Int)) = xs.take k := by
  unfold Dt.cutD
  rw [HT.sIx_none, HT.sIx_nat, List.drop_zero, Nat.sub_zero]
  rcases Nat.le_total k xs.length with h | h
  · rw [Nat.min_eq_left h]
  · rw [Nat.min_eq_right h, List.take_length, List.take_of_length_le h]
end Dt

namespace Dt
open PySem PySem.Spec PyProof.Rows

/-! ### plain data: pis, tuples of pis, texts of them -/
abbrev pis (l : List Int) : List PyData := l.map .int
def rangeI (lo : Int) (n : Nat) : List Int := (List.range n).map fun i => lo + (i : Nat)
theorem rangeD_ints (lo : Int) (n : Nat) : rangeD lo n = pis (rangeI lo n) := by unfold rangeD pis rangeI; rw [List.map_map]; rfl
theorem mem_rangeI {lo x : Int} {n : Nat} : x ∈ rangeI lo n ↔ lo ≤ x ∧ x < lo + n := by
  unfold rangeI
  rw [List.mem_map]
  constructor
  · rintro ⟨i, hi, rfl⟩
    have := List.mem_range.mp hi
    omega
  · rintro ⟨h1, h2⟩
    exact ⟨(x - lo).toNat, List.mem_range.mpr (by omega), by omega⟩
theorem len_rangeI (lo : Int) (n : Nat) : (rangeI lo n).length = n := by unfold rangeI; rw [List.length_map, List.length_range]
theorem rangeI_get {lo : Int} {n k : Nat} {x : Int} (h : (rangeI lo n)[k]? = some x) : x = lo + k ∧ k < n := by
  unfold rangeI at h
  rw [List.getElem?_map] at h
  rcases Nat.lt_or_ge k n with hk | hk
  · rw [List.getElem?_range hk] at h
    cases h
    exact ⟨rfl, hk⟩
  · rw [List.getElem?_eq_none (by rw [List.length_range]; exact hk)] at h
    cases h
theorem ints_get {l : List Int} {k : Nat} {x : PyData} (h : (pis l)[k]? = some x) : ∃ i, x = .int i ∧ l[k]? = some i := by
  unfold pis at h
  rw [List.getElem?_map] at h
  cases e : l[k]? with
  | none => rw [e] at h; cases h
  | some i => rw [e] at h; cases h; exact ⟨i, rfl, rfl⟩
theorem mem_ints {l : List Int} {x : PyData} (h : x ∈ pis l) : ∃ i, x = .int i ∧ i ∈ l := by
  obtain ⟨i, hi, rfl⟩ := List.mem_map.mp h
  exact ⟨i, rfl, hi⟩
theorem intsOf_ints : ∀ l : List Int, intsOf (pis l) = some l
  | [] => rfl
  | i :: r => by show (intsOf (pis r)).map (fun is => i :: is) = _; rw [intsOf_ints r]; rfl
/-- data whose == is told, and whose text is short: nothing but none, bools, pis, lists, tuples of them, no deeper than n -/
inductive Flat : Nat → PyData → Prop
  | none {n} : Flat n .none
  | bool {n} (b) : Flat n (.bool b)
  | int {n} (i) : Flat n (.int i)
  | list {n ds} : (∀ d, d ∈ ds → Flat n d) → Flat (n + 1) (.list ds)
  | tuple {n ds} : (∀ d, d ∈ ds → Flat n d) → Flat (n + 1) (.tuple ds)
theorem depthAll_le {n : Nat} : ∀ {ds : List PyData}, (∀ d, d ∈ ds → d.depth ≤ n) → PyData.depthAll ds ≤ n
  | [], _ => by simp [PyData.depthAll]
  | d :: ds, h => by
    have h1 := h d List.mem_cons_self
    have h2 := depthAll_le (ds := ds) fun x hx => h x (List.mem_cons_of_mem _ hx)
    simp only [PyData.depthAll]
    omega
theorem Flat.depth : ∀ {n : Nat} {d : PyData}, Flat n d → d.depth ≤ n + 1
  | _, _, .none => by simp [PyData.depth]
  | _, _, .bool b => by simp [PyData.depth]
  | _, _, .int i => by simp [PyData.depth]
  | n + 1, .list ds, .list h => by
    have := depthAll_le (n := n + 1) fun d hd => Flat.depth (h d hd)
    simp only [PyData.depth]; omega
  | n + 1, .tuple ds, .tuple h => by
    have := depthAll_le (n := n + 1) fun d hd => Flat.depth (h d hd)
    simp only [PyData.depth]; omega
theorem canLayAll0_of : ∀ {ds : List PyData}, (∀ d, d ∈ ds → d.canLay0 = true) → PyData.canLayAll0 ds = true
  | [], _ => by simp [PyData.canLayAll0]
  | d :: ds, h => by
    simp only [PyData.canLayAll0, Bool.and_eq_true]
    exact ⟨h d List.mem_cons_self, canLayAll0_of fun x hx => h x (List.mem_cons_of_mem _ hx)⟩
theorem Flat.lay : ∀ {n : Nat} {d : PyData}, Flat n d → d.canLay0 = true
  | _, _, .none => by simp [PyData.canLay0]
  | _, _, .bool b => by simp [PyData.canLay0]
  | _, _, .int i => by simp [PyData.canLay0]
  | n + 1, .list ds, .list h => by simp only [PyData.canLay0]; exact canLayAll0_of fun d hd => Flat.lay (h d hd)
  | n + 1, .tuple ds, .tuple h => by simp only [PyData.canLay0]; exact canLayAll0_of fun d hd => Flat.lay (h d hd)
theorem Flat.shaped {n : Nat} {d : PyData} (h : Flat n d) (hn : n ≤ 63 := by decide) : SeqAt.shaped d = true := by
  show (d.canLay0 && decide (d.depth ≤ 64)) = true
  rw [h.lay, Bool.true_and, decide_eq_true_eq]
  have := h.depth
  omega
theorem flat_ints {n : Nat} (l : List Int) : ∀ d, d ∈ pis l → Flat n d := fun d hd => by
  obtain ⟨i, rfl, _⟩ := mem_ints hd
  exact .int i
theorem flat_tup (l : List Int) : Flat 1 (.tuple (pis l)) := .tuple (flat_ints l)
theorem flat_lst (l : List Int) : Flat 1 (.list (pis l)) := .list (flat_ints l)
theorem Flat.mono : ∀ {n m : Nat} {d : PyData}, Flat n d → n ≤ m → Flat m d
  | _, _, _, .none, _ => .none
  | _, _, _, .bool b, _ => .bool b
  | _, _, _, .int i, _ => .int i
  | n + 1, m + 1, .list ds, .list h, hm => .list fun d hd => (h d hd).mono (Nat.le_of_succ_le_succ hm)
  | n + 1, m + 1, .tuple ds, .tuple h, hm => .tuple fun d hd => (h d hd).mono (Nat.le_of_succ_le_succ hm)
theorem eqv_str (x y : Str) : PyData.eqv (.str x) (.str y) = (x == y) := by simp [PyData.eqv]
theorem eqvAll_ints : ∀ a b : List Int, PyData.eqvAll (pis a) (pis b) = decide (a = b)
  | [], [] => by simp [PyData.eqvAll]
  | [], _ :: _ => by simp [PyData.eqvAll]
  | _ :: _, [] => by simp [PyData.eqvAll]
  | i :: a, j :: b => by
    show PyData.eqvAll (.int i :: pis a) (.int j :: pis b) = _
    simp only [PyData.eqvAll, PyData.eqv]
    rw [eqvAll_ints a b]
    by_cases h : i = j <;> by_cases h2 : a = b <;> simp [h, h2]
theorem eqv_tupI (a b : List Int) : PyData.eqv (.tuple (pis a)) (.tuple (pis b)) = decide (a = b) := by simp only [PyData.eqv]; exact eqvAll_ints a b
theorem eqv_lstI (a b : List Int) : PyData.eqv (.list (pis a)) (.list (pis b)) = decide (a = b) := by simp only [PyData.eqv]; exact eqvAll_ints a b
theorem eqv_int (i j : Int) : PyData.eqv (.int i) (.int j) = decide (i = j) := by simp only [PyData.eqv]; by_cases h : i = j <;> simp [h]
theorem anyEq_ints (l : List Int) (k : Int) : anyEq (pis l) (.int k) = decide (k ∈ l) := by
  unfold anyEq
  induction l with
  | nil => simp [pis]
  | cons i r ih =>
    show (PyData.int i :: pis r).any _ = _
    rw [List.any_cons, ih, eqv_int]
    by_cases h : i = k
    · subst h; simp
    · have h' : ¬ k = i := fun z => h z.symm
      by_cases h2 : k ∈ r <;> simp [h, h2, h']
end Dt

namespace Dt
open PySem PySem.Spec PyProof.Rows

/-! ### small data: its text can be told -/
inductive Sm : Nat → Nat → PyData → Prop
  | none {n c} : Sm n c .none
  | bool {n c} (b) : Sm n c (.bool b)
  | edict {n c} : Sm n c (.dict [])
  | int {n c i} : i.natAbs < 10 ^ 40 → Sm n c (.int i)
  | str {n c} {x : Str} : x.cps.size ≤ c → (∀ a ∈ x.cps.toList, a < 0x110000) → Sm n c (.str x)
  | list {n c c' ds} (k : Nat) : (∀ d, d ∈ ds → Sm n c d) → ds.length ≤ k → k * (c + 1) ≤ c' → Sm (n + 1) c' (.list ds)
  | tuple {n c c' ds} (k : Nat) : (∀ d, d ∈ ds → Sm n c d) → ds.length ≤ k → k * (c + 1) ≤ c' → Sm (n + 1) c' (.tuple ds)
theorem bulkAll_le {c : Nat} : ∀ {ds : List PyData}, (∀ d, d ∈ ds → d.bulk ≤ c) → PyData.bulkAll ds ≤ ds.length * (c + 1)
  | [], _ => by simp [PyData.bulkAll]
  | d :: ds, h => by
    have h1 := h d List.mem_cons_self
    have h2 := bulkAll_le (ds := ds) fun x hx => h x (List.mem_cons_of_mem _ hx)
    simp only [PyData.bulkAll, List.length_cons, Nat.add_mul, Nat.one_mul]
    omega
theorem showableAll_of : ∀ {ds : List PyData}, (∀ d, d ∈ ds → d.showable = true) → PyData.showableAll ds = true
  | [], _ => by simp [PyData.showableAll]
  | d :: ds, h => by
    simp only [PyData.showableAll, Bool.and_eq_true]
    exact ⟨h d List.mem_cons_self, showableAll_of fun x hx => h x (List.mem_cons_of_mem _ hx)⟩
theorem leavesAll_of {B : Nat} : ∀ {ds : List PyData}, (∀ d, d ∈ ds → d.leavesShort B = true) → PyData.leavesShortAll B ds = true
  | [], _ => by simp [PyData.leavesShortAll]
  | d :: ds, h => by
    simp only [PyData.leavesShortAll, Bool.and_eq_true]
    exact ⟨h d List.mem_cons_self, leavesAll_of fun x hx => h x (List.mem_cons_of_mem _ hx)⟩
theorem Sm.all : ∀ {n c : Nat} {d : PyData}, Sm n c d → d.depth ≤ n + 1 ∧ d.bulk ≤ c ∧ d.showable = true ∧ d.leavesShort 41 = true
  | _, _, _, .none => by simp [PyData.depth, PyData.bulk, PyData.showable, PyData.leavesShort]
  | _, _, _, .bool b => by simp [PyData.depth, PyData.bulk, PyData.showable, PyData.leavesShort]
  | _, _, _, .edict => by simp [PyData.depth, PyData.depthKv, PyData.bulk, PyData.bulkKv, PyData.showable, PyData.showableKv, PyData.leavesShort, PyData.leavesShortKv]
  | _, _, _, .int (i := i) h => by
    have h1 : i.natAbs.log2 < 1920 := by
      by_cases hz : i.natAbs = 0
      · rw [hz]; decide
      · rw [Nat.log2_lt hz]
        have : (10 : Nat) ^ 12 < 2 ^ 1920 := by decide +kernel
        omega
    have h2 : (PyData.shown (.int i)).length ≤ 41 := by
      show (Str.ofString (toString i)).length ≤ 41
      rw [ofString_len]
      exact int_text_length_le10 (k := 40) (by decide) h
    simp [PyData.depth, PyData.bulk, PyData.showable, PyData.leavesShort, h1, h2]
  | _, _, _, .str h h2 => by
    simp only [PyData.depth, PyData.bulk, PyData.showable, PyData.leavesShort, List.all_eq_true, decide_eq_true_eq]
    exact ⟨by omega, h, trivial, fun a ha => by have := h2 a ha; omega⟩
  | n + 1, c', .list ds, .list (c := c) k h h2 h3 => by
    have ih := fun d hd => Sm.all (h d hd)
    have b1 := depthAll_le (n := n + 1) fun d hd => (ih d hd).1
    have b2 := bulkAll_le fun d hd => (ih d hd).2.1
    have b3 : ds.length * (c + 1) ≤ k * (c + 1) := Nat.mul_le_mul_right _ h2
    simp only [PyData.depth, PyData.bulk, PyData.showable, PyData.leavesShort]
    exact ⟨by omega, by omega, showableAll_of fun d hd => (ih d hd).2.2.1, leavesAll_of fun d hd => (ih d hd).2.2.2⟩
  | n + 1, c', .tuple ds, .tuple (c := c) k h h2 h3 => by
    have ih := fun d hd => Sm.all (h d hd)
    have b1 := depthAll_le (n := n + 1) fun d hd => (ih d hd).1
    have b2 := bulkAll_le fun d hd => (ih d hd).2.1
    have b3 : ds.length * (c + 1) ≤ k * (c + 1) := Nat.mul_le_mul_right _ h2
    simp only [PyData.depth, PyData.bulk, PyData.showable, PyData.leavesShort]
    exact ⟨by omega, by omega, showableAll_of fun d hd => (ih d hd).2.2.1, leavesAll_of fun d hd => (ih d hd).2.2.2⟩
end Dt

namespace Dt
open PySem PySem.Spec PyProof.Rows

/-! ### webs as data -/
abbrev Ln := Int × Int
def lnD (p : Ln) : PyData := .tuple [.int p.1, .int p.2]
def webD (m : Int) (ls : List Ln) : PyData := .tuple [.int m, .tuple (ls.map lnD)]
/-- all pairs of so many people, ascending -/
def rowP (m : Nat) (a : Int) : List Ln := (rangeI (a + 1) ((m : Int) - (a + 1)).toNat).map fun b => (a, b)
def allP (m : Nat) : List Ln := (rangeI 0 m).flatMap (rowP m)
/-- the lines of a web -/
def IsWeb (m : Nat) (ls : List Ln) : Prop := ls.Sublist (allP m)
theorem mem_allP {m : Nat} {p : Ln} (h : p ∈ allP m) : 0 ≤ p.1 ∧ p.1 < p.2 ∧ p.2 < m := by
  unfold allP rowP at h
  obtain ⟨a, ha, h⟩ := List.mem_flatMap.mp h
  obtain ⟨b, hb, rfl⟩ := List.mem_map.mp h
  have h1 := mem_rangeI.mp ha
  have h2 := mem_rangeI.mp hb
  refine ⟨by simp only; omega, by simp only; omega, by simp only; omega⟩
theorem IsWeb.mem {m : Nat} {ls : List Ln} (h : IsWeb m ls) {p : Ln} (hp : p ∈ ls) : 0 ≤ p.1 ∧ p.1 < p.2 ∧ p.2 < m := mem_allP (List.Sublist.subset h hp)
theorem flatMap_len_le {α β : Type} {f : α → List β} {c : Nat} : ∀ l : List α, (∀ x, x ∈ l → (f x).length ≤ c) → (l.flatMap f).length ≤ l.length * c
  | [], _ => by simp
  | x :: l, h => by
    have h1 := h x List.mem_cons_self
    have h2 := flatMap_len_le l fun y hy => h y (List.mem_cons_of_mem _ hy)
    rw [List.flatMap_cons, List.length_append, List.length_cons, Nat.add_mul, Nat.one_mul]
    omega
theorem allP_len (m : Nat) : (allP m).length ≤ m * m := by
  have h := flatMap_len_le (f := rowP m) (c := m) (rangeI 0 m) fun a ha => by
    unfold rowP
    have := mem_rangeI.mp ha
    rw [List.length_map, len_rangeI]
    omega
  rw [len_rangeI] at h
  exact h
theorem IsWeb.len {m : Nat} {ls : List Ln} (h : IsWeb m ls) : ls.length ≤ m * m := Nat.le_trans (List.Sublist.length_le h) (allP_len m)
/-- how many lines somebody has -/
def degI (ls : List Ln) (v : Int) : Int := (ls.countP fun p => decide (p.1 = v) || decide (p.2 = v) : Nat)
def lotsI (m : Nat) (ls : List Ln) : List Int := (rangeI 0 m).map (degI ls)
theorem lotsI_len (m : Nat) (ls : List Ln) : (lotsI m ls).length = m := by unfold lotsI; rw [List.length_map, len_rangeI]
theorem lotsI_nil (m : Nat) : lotsI m [] = List.replicate m 0 := by
  unfold lotsI degI rangeI
  rw [List.map_map]
  apply List.ext_getElem
  · simp
  · intro i h1 h2; simp
theorem rangeI_getElem {lo : Int} {n k : Nat} (h : k < n) : (rangeI lo n)[k]? = some (lo + k) := by
  unfold rangeI; rw [List.getElem?_map, List.getElem?_range h]; rfl
theorem degI_snoc (ls : List Ln) (p : Ln) (v : Int) : degI (ls ++ [p]) v = degI ls v + (if p.1 = v ∨ p.2 = v then 1 else 0) := by
  unfold degI
  rw [List.countP_append, List.countP_singleton]
  by_cases h1 : p.1 = v <;> by_cases h2 : p.2 = v <;> simp [h1, h2]
/-- what holds between -/
theorem g_cut {g : DE} {ρ : Env} {Q : Bool → Res → Env → Prop} (R : Bool → Res → Env → Prop) (h1 : ∀ K : Bool → Res → Env → Prop, (∀ q r ρ', R q r ρ' → K q r ρ') → g ρ K) (h2 : ∀ q r ρ', R q r ρ' → Q q r ρ') : g ρ Q := h1 Q h2
theorem s_cut {a : DS} {ρ : Env} {nx : Env → Prop} {rt : Res → Env → Prop} {ct : Env → Prop} (R : Env → Prop) (h1 : ∀ K : Env → Prop, (∀ ρ', R ρ' → K ρ') → a { nx := K, rt := rt, ct := ct } ρ) (h2 : ∀ ρ', R ρ' → nx ρ') : a { nx := nx, rt := rt, ct := ct } ρ := h1 nx h2
theorem tk_snoc {α : Type} {l : List α} {k : Nat} {x : α} (h : l[k]? = some x) : l.take (k + 1) = l.take k ++ [x] := by rw [List.take_add_one, h]; rfl
theorem map_get {α β : Type} {f : α → β} {l : List α} {k : Nat} {y : β} (h : (l.map f)[k]? = some y) : ∃ x, l[k]? = some x ∧ f x = y := by
  rw [List.getElem?_map] at h
  cases e : l[k]? with
  | none => rw [e] at h; cases h
  | some x => rw [e] at h; cases h; exact ⟨x, rfl, rfl⟩
/-- data that are ints, as a test tells it -/
theorem eq_i (i j : Int) : eqD false (.int i) (.int j) = some (decide (i = j)) := by rw [eq_e rfl rfl, eqv_int]; rfl
theorem ne_i (i j : Int) : eqD true (.int i) (.int j) = some (!decide (i = j)) := by rw [eq_e rfl rfl, eqv_int]; rfl
theorem eq_t (a b : List Int) : eqD false (.tuple (pis a)) (.tuple (pis b)) = some (decide (a = b)) := by rw [eq_e (flat_tup a).shaped (flat_tup b).shaped, eqv_tupI]; rfl
theorem ne_t (a b : List Int) : eqD true (.tuple (pis a)) (.tuple (pis b)) = some (!decide (a = b)) := by rw [eq_e (flat_tup a).shaped (flat_tup b).shaped, eqv_tupI]; rfl
theorem eq_l (a b : List Int) : eqD false (.list (pis a)) (.list (pis b)) = some (decide (a = b)) := by rw [eq_e (flat_lst a).shaped (flat_lst b).shaped, eqv_lstI]; rfl
theorem ne_l (a b : List Int) : eqD true (.list (pis a)) (.list (pis b)) = some (!decide (a = b)) := by rw [eq_e (flat_lst a).shaped (flat_lst b).shaped, eqv_lstI]; rfl
theorem in_t (l : List Int) (k : Int) : inD false (.int k) (.tuple (pis l)) = some (decide (k ∈ l)) := by rw [inT_e rfl (flat_tup l).shaped, anyEq_ints]; rfl
theorem ni_t (l : List Int) (k : Int) : inD true (.int k) (.tuple (pis l)) = some (!decide (k ∈ l)) := by rw [inT_e rfl (flat_tup l).shaped, anyEq_ints]; rfl
theorem in_l (l : List Int) (k : Int) : inD false (.int k) (.list (pis l)) = some (decide (k ∈ l)) := by rw [inL_e rfl (flat_lst l).shaped, anyEq_ints]; rfl
theorem ni_l (l : List Int) (k : Int) : inD true (.int k) (.list (pis l)) = some (!decide (k ∈ l)) := by rw [inL_e rfl (flat_lst l).shaped, anyEq_ints]; rfl
theorem str_shaped {x : Str} (h : PyData.canLay0 (.str x) = true) : SeqAt.shaped (.str x) = true := by
  show (PyData.canLay0 (.str x) && decide (PyData.depth (.str x) ≤ 64)) = true
  rw [h, Bool.true_and, decide_eq_true_eq]; simp [PyData.depth]
theorem eq_s (x y : Str) (hx : PyData.canLay0 (.str x) = true) (hy : PyData.canLay0 (.str y) = true) : eqD false (.str x) (.str y) = some (x == y) := by rw [eq_e (str_shaped hx) (str_shaped hy), eqv_str]; rfl
theorem ne_s (x y : Str) (hx : PyData.canLay0 (.str x) = true) (hy : PyData.canLay0 (.str y) = true) : eqD true (.str x) (.str y) = some (!(x == y)) := by rw [eq_e (str_shaped hx) (str_shaped hy), eqv_str]; rfl
theorem sum_e {ρ : Env} {r : Res} {isL : Bool} {l : List Int} (e : r.seq ρ = some (isL, pis l)) : intsF (fun is => some is.sum) ρ [r] = some (.cl (.int l.sum)) := by
  show ((r.seq ρ).bind fun p => (intsOf p.2).bind fun is => (some is.sum).map fun m => Res.cl (.int m)) = _
  rw [e]
  show ((intsOf (pis l)).bind _) = _
  rw [intsOf_ints]
  rfl
end Dt

namespace Dt
open PySem PySem.Spec PyProof.Rows

/-! ### what is told of small data are texts of signs -/
def Signs (x : Str) : Prop := ∀ a ∈ x.cps.toList, a < 0x110000
theorem Signs.ok {x : Str} (h : Signs x) : PyData.canLay0 (.str x) = true := by
  simp only [PyData.canLay0, PyData.strOk]
  rw [← Array.all_toList, List.all_eq_true]
  intro a ha
  exact decide_eq_true (h a ha)
theorem Signs.app {x y : Str} (h1 : Signs x) (h2 : Signs y) : Signs (x ++ y) := fun a ha => by
  have ha : a ∈ (x.cps ++ y.cps).toList := ha
  rw [Array.toList_append] at ha
  rcases List.mem_append.mp ha with z | z
  · exact h1 a z
  · exact h2 a z
theorem Signs.lit (s : String) : Signs (s : Str) := fun a ha => by
  have ha : a ∈ (Str.ofString s).cps.toList := ha
  rw [Str.ofString_eq_toList] at ha
  obtain ⟨c, _, rfl⟩ := List.mem_map.mp ha
  have := c.valid
  rcases this with h | h
  · show c.val.toNat < _; have h : c.val.toNat < 0xd800 := h; omega
  · show c.val.toNat < _; exact h.2
theorem Signs.join {sep : Str} {ts : List Str} (h : ∀ t, t ∈ ts → Signs t) (hs : Signs sep) : Signs (Str.join sep ts) := fun a ha => by
  rcases (mem_join sep a ts).mp ha with ⟨t, ht, z⟩ | ⟨_, z⟩
  · exact h t ht a z
  · exact hs a z
theorem reprChar_lt {q c : Nat} (hc : c < 0x110000) : ∀ a, a ∈ Builtin.Str.reprChar q c → a < 0x110000 := by
  have hx : ∀ (w : Nat) (a : Nat), a ∈ List.replicate (w - ((Nat.toDigits 16 c).map Char.toNat).length) 48 ++ (Nat.toDigits 16 c).map Char.toNat → a < 0x110000 := fun w a ha => by
    rcases List.mem_append.mp ha with z | z
    · have := List.eq_of_mem_replicate z; omega
    · obtain ⟨d, _, rfl⟩ := List.mem_map.mp z
      rcases d.valid with h | h
      · show d.val.toNat < _; have h : d.val.toNat < 0xd800 := h; omega
      · exact h.2
  intro a ha
  unfold Builtin.Str.reprChar at ha
  dsimp only at ha
  repeat' split at ha
  all_goals simp only [List.mem_append, List.mem_cons, List.not_mem_nil, or_false] at ha
  all_goals first
    | omega
    | (rcases ha with (z | z) | z
       · omega
       · omega
       · exact hx _ a (List.mem_append.mpr z))
theorem foldl_repr_lt (q : Nat) : ∀ (l : List Nat) (acc : Array Nat), (∀ c ∈ l, c < 0x110000) → (∀ a ∈ acc.toList, a < 0x110000) → ∀ a ∈ (l.foldl (fun out c => out ++ (Builtin.Str.reprChar q c).toArray) acc).toList, a < 0x110000
  | [], acc, _, h => h
  | c :: r, acc, h, h2 => by
    rw [List.foldl_cons]
    refine foldl_repr_lt q r _ (fun d hd => h d (List.mem_cons_of_mem _ hd)) fun a ha => ?_
    rw [Array.toList_append] at ha
    rcases List.mem_append.mp ha with z | z
    · exact h2 a z
    · exact reprChar_lt (h c List.mem_cons_self) a (by simpa using z)
theorem Signs.repr {x : Str} (h : Signs x) : Signs (reprText x) := fun a ha => by
  unfold reprText at ha
  have hq : reprQuote x < 0x110000 := by unfold reprQuote; split <;> omega
  simp only [Array.toList_push, List.mem_append, List.mem_singleton] at ha
  rcases ha with z | z
  · rw [← Array.foldl_toList] at z
    exact foldl_repr_lt _ _ _ h (fun b hb => by simp at hb; omega) a z
  · omega
theorem shownAll_mem : ∀ {ds : List PyData} {t : Str}, t ∈ PyData.shownAll ds → ∃ d, d ∈ ds ∧ t = d.shown
  | [], t, h => by simp [PyData.shownAll] at h
  | d :: ds, t, h => by
    simp only [PyData.shownAll, List.mem_cons] at h
    rcases h with rfl | h
    · exact ⟨d, List.mem_cons_self, rfl⟩
    · obtain ⟨e, he, rfl⟩ := shownAll_mem h
      exact ⟨e, List.mem_cons_of_mem _ he, rfl⟩
theorem Sm.signs : ∀ {n c : Nat} {d : PyData}, Sm n c d → Signs d.shown
  | _, _, _, .none => by simp only [PyData.shown]; exact Signs.lit _
  | _, _, _, .bool b => by simp only [PyData.shown]; split <;> exact Signs.lit _
  | _, _, _, .edict => by simp only [PyData.shown, PyData.shownKv]; exact Signs.app (Signs.app (Signs.lit _) (Signs.join (fun t ht => (by cases ht)) (Signs.lit _))) (Signs.lit _)
  | _, _, _, .int (i := i) _ => by simp only [PyData.shown]; exact Signs.lit _
  | _, _, _, .str _ h => by simp only [PyData.shown]; exact Signs.repr h
  | _, _, .list ds, .list k h _ _ => by
    simp only [PyData.shown]
    rw [listText_eq_join]
    refine Signs.app (Signs.app (Signs.lit _) (Signs.join (fun t ht => ?_) (Signs.lit _))) (Signs.lit _)
    obtain ⟨d, hd, rfl⟩ := shownAll_mem ht
    exact (h d hd).signs
  | _, _, .tuple ds, .tuple k h _ _ => by
    simp only [PyData.shown]
    unfold tupleText
    refine Signs.app (Signs.app (Signs.lit _) (Signs.join (fun t ht => ?_) (Signs.lit _))) (by split <;> exact Signs.lit _)
    obtain ⟨d, hd, rfl⟩ := shownAll_mem ht
    exact (h d hd).signs
theorem Sm.lay {n c : Nat} {d : PyData} (h : Sm n c d) : PyData.canLay0 (.str d.shown) = true := h.signs.ok
end Dt

namespace Dt
open PySem PySem.Spec PyProof.Rows

/-! ### a deck of draws -/
structure Deck where
  deep : List Int
  state : Int
def Deck.kvs (b : Deck) : List (L2.Key × OV) := [(.inr "deep", .lst (b.deep.map .int)), (.inr "state", .fr (.int b.state))]
def Deck.ov (b : Deck) : OV := .dct b.kvs
def Deck.fine (b : Deck) : Prop := b.deep.length ≤ 63
theorem key_sdD : decide ((Sum.inr "state" : L2.Key) = .inr "deep") = false := by decide +kernel
theorem Deck.nd (a b : OV) : ndK [((.inr "deep" : L2.Key), a), (.inr "state", b)] = true := by
  simp only [ndK, List.any_cons, List.any_nil, key_sdD, Bool.or_false, Bool.not_false, Bool.and_self]
end Dt

namespace Dt
open PySem PySem.Spec PyProof.Rows

/-! ### lists told item by item, with draws between; pairs -/
theorem lcK_inv {vs : List Nat} {tg : DG} {t : DT} {g : DE} {items : List PyData} {ρ : Env} {Q : Bool → Res → Env → Prop} (I : Nat → Env → List PyData → Prop) (h0 : I 0 (wipeE ρ vs) []) (hl : items.length ≤ sizeLine)
    (hs : ∀ k x ρ0 acc, items[k]? = some x → I k ρ0 acc → ∀ (K1 : Env → PyData → Prop) (K0 : Env → Prop), (∀ ρ2 d, I (k + 1) (wipeE ρ2 vs) (acc ++ [d]) → K1 ρ2 d) → (∀ ρ2, I (k + 1) (wipeE ρ2 vs) acc → K0 ρ2) →
      tg x ρ0 fun ρ1 => t ρ1 fun _ b ρ2 => if b = true then g ρ2 fun _ r ρ3 => ok (r.cln ρ3) fun d => K1 ρ3 d else K0 ρ2)
    (k : ∀ ρ0 acc, I items.length ρ0 acc → Q false (.fr (.lst acc)) ρ0) : lcK vs tg t g items ρ Q := by
  have main : ∀ (xs : List PyData) (n : Nat) (ρ : Env) (acc : List PyData), (∀ j, xs[j]? = items[n + j]?) → n + xs.length = items.length → acc.length ≤ n → I n (wipeE ρ vs) acc → lcL vs tg t g (fun ds ρ2 => Q false (.fr (.lst ds)) (wipeE ρ2 vs)) xs ρ acc := by
    intro xs
    induction xs with
    | nil =>
      intro n ρ acc _ hn _ hi
      refine k _ _ ?_
      rw [List.length_nil, Nat.add_zero] at hn
      rw [← hn]
      exact hi
    | cons x xs ih =>
      intro n ρ acc hx hn ha hi
      rw [List.length_cons] at hn
      have hx0 : items[n]? = some x := by have := hx 0; rw [List.getElem?_cons_zero, Nat.add_zero] at this; exact this.symm
      have hx1 : ∀ j, xs[j]? = items[n + 1 + j]? := fun j => by rw [show n + 1 + j = n + (j + 1) by omega, ← hx (j + 1), List.getElem?_cons_succ]
      refine hs n x (wipeE ρ vs) acc hx0 hi (fun ρ3 d => acc.length < sizeLine ∧ lcL vs tg t g _ xs ρ3 (acc ++ [d])) (fun ρ2 => lcL vs tg t g _ xs ρ2 acc) (fun ρ2 d e => ⟨by omega, ?_⟩) fun ρ2 e => ?_
      · exact ih (n + 1) _ _ hx1 (by omega) (by rw [List.length_append, List.length_singleton]; omega) e
      · exact ih (n + 1) _ _ hx1 (by omega) (by omega) e
  exact main items 0 ρ [] (fun j => by rw [Nat.zero_add]) (Nat.zero_add _) (Nat.le_refl _) h0
theorem flat_ln {n : Nat} (p : Ln) : Flat (n + 1) (lnD p) := by
  unfold lnD
  refine .tuple fun d hd => ?_
  rcases List.mem_cons.mp hd with rfl | hd
  · exact .int _
  · rw [List.mem_singleton] at hd; subst hd; exact .int _
theorem flat_lns {n : Nat} (ls : List Ln) : Flat (n + 2) (.tuple (ls.map lnD)) := .tuple fun d hd => by
  obtain ⟨p, _, rfl⟩ := List.mem_map.mp hd
  exact flat_ln p
theorem eqv_ln (p q : Ln) : PyData.eqv (lnD p) (lnD q) = decide (p = q) := by
  obtain ⟨a, b⟩ := p
  obtain ⟨c, d⟩ := q
  simp only [lnD, PyData.eqv, PyData.eqvAll, Prod.mk.injEq]
  by_cases h1 : a = c <;> by_cases h2 : b = d <;> simp [h1, h2]
theorem anyEq_lns (ls : List Ln) (p : Ln) : anyEq (ls.map lnD) (lnD p) = decide (p ∈ ls) := by
  unfold anyEq
  induction ls with
  | nil => simp
  | cons q r ih =>
    rw [List.map_cons, List.any_cons, ih, eqv_ln]
    by_cases h : q = p
    · subst h; simp
    · have h' : ¬ p = q := fun z => h z.symm
      by_cases h2 : p ∈ r <;> simp [h, h2, h']
theorem in_lns (ls : List Ln) (p : Ln) : inD false (lnD p) (.tuple (ls.map lnD)) = some (decide (p ∈ ls)) := by rw [inT_e (flat_ln (n := 0) p).shaped (flat_lns (n := 0) ls).shaped, anyEq_lns]; rfl
theorem ni_lns (ls : List Ln) (p : Ln) : inD true (lnD p) (.tuple (ls.map lnD)) = some (!decide (p ∈ ls)) := by rw [inT_e (flat_ln (n := 0) p).shaped (flat_lns (n := 0) ls).shaped, anyEq_lns]; rfl
end Dt

namespace Dt
open PySem PySem.Spec PyProof.Rows L2
open Sem (wp)

/-! ### enumerate over a list, over a tuple -/
theorem enum_new1 {v : Value} {o : Obj} {H : Heap → Prop} (B : Begins v o H) : Meets (Builtin.«enumerate.__new__» ⟨[.type "enumerate", v], []⟩) (fun _ R s => H s.heap ∧
    R (.ok (.ret (.ref (s.heap.push o).objs.size))) { s with heap := (s.heap.push o).push { cls := .type "enumerate", data := .fields #[.none, .bool false, .ref s.heap.objs.size, rawInt 0, .none, .none] } }) :=
  .of_wp fun prog w A R s hh => by
    obtain ⟨hp, g, d, tk, os⟩ := s
    obtain ⟨h1, h⟩ := hh
    have sub1 := sub_enumerate
    have it1 : ∀ {A' : Around} {E Q : Value → Shared → Prop}, Q (.ref hp.objs.size) ⟨hp.push o, g, d, tk, os⟩ → wpAny (model prog w) A' (pyIter v) Q E ⟨hp, g, d, tk, os⟩ := fun q => B.iter prog w _ _ ⟨hp, g, d, tk, os⟩ _ h1 q
    wp_walk using it1
    refine wpAny_stack_any fun st => wpAny_pure ?_
    split
    · rename_i c _ _ _ _ _
      cases (c == Value.type "enumerate") <;> (wp_walk using it1; exact ⟨_, rfl, h⟩)
    · (wp_walk using it1); exact ⟨_, rfl, h⟩
section
variable {prog : Program} {w : World} {A : Around} {E : Value → Shared → Prop} {s : Shared}
theorem enum_call1 {v : Value} {o : Obj} {H : Heap → Prop} {Q : Value → Shared → Prop} (B : Begins v o H) (h1 : H s.heap)
    (h : ∀ h', IsEnum h' (s.heap.objs.size + 1) s.heap.objs.size 0 .none → h'.get? s.heap.objs.size = some o → (∀ b ob, s.heap.get? b = some ob → h'.get? b = some ob) → Q (.ref (s.heap.objs.size + 1)) { s with heap := h' }) :
    wpAny (model prog w) A (call (.type "enumerate") [v]) Q E s := by
  refine callType_new F.called_enumerate (by decide) (F.typeCall_enumerate_1 _) (F.newCall_enumerate_1 _) (fun obj => F.args_object_init_2 obj _) F.entry_enumerate_new (enum_new1 B) ⟨h1, ?_⟩
  have hz : (s.heap.push o).objs.size = s.heap.objs.size + 1 := Heap.size_push ..
  show _ ∧ _
  rw [hz]
  have he : IsEnum ((s.heap.push o).push { cls := .type "enumerate", data := .fields #[.none, .bool false, .ref s.heap.objs.size, rawInt 0, .none, .none] }) (s.heap.objs.size + 1) s.heap.objs.size 0 .none := by
    have := Heap.get?_push_size (s.heap.push o) (o := { cls := .type "enumerate", data := .fields #[.none, .bool false, .ref s.heap.objs.size, rawInt 0, .none, .none] }) rfl
    rw [hz] at this
    exact this
  exact ⟨⟨_, he, rfl⟩, h _ he (Heap.get?_push_of_some _ (Heap.get?_push_size _ B.free)) fun b ob x => Heap.get?_push_of_some _ (Heap.get?_push_of_some _ x)⟩
end
/-- the tuple at a, each item in a new pair -/
def IteT (K : Fg) (a : Addr) : It :=
  ⟨fun i H => ∃ (xs : List V) (x : V), SqT K H a xs ∧ xs[i]? = some x, fun i H v H' => ∃ T x, v = .ref T ∧ H T = none ∧ (∃ o : Obj, o.dict = none ∧ H' = upd H T (.frz o (.tup [.int (i : Nat), x]))) ∧ ∀ xs, SqT K H a xs → xs[i]? = some x, fun i H => ∃ xs : List V, SqT K H a xs ∧ xs.length ≤ i⟩
theorem turn_enumT {P : Program} {w : World} {K : Fg} {elts : List Expr} {kk : Nat} {tpos : Pos} (a e it : Addr) :
    Turn P w K (.Tuple elts kk tpos) (IteT K a) [e, it] e (fun i h => (∃ old, IsEnum h e it ((i : Nat) : Int) old) ∧ h.IsTupleIter it a i ∧ e ≠ it) where
  mem := by simp
  obj := fun i h st b hb => by
    obtain ⟨⟨old, he⟩, ⟨o, ho, hc, hd⟩, _⟩ := st
    rcases (show b = e ∨ b = it by simpa using hb) with rfl | rfl
    · exact ⟨_, he, fun v q => nomatch q⟩
    · exact ⟨o, ho, fun v q => by rw [hd] at q; cases q⟩
  keep := fun i h h' st k => ⟨⟨st.1.choose, k e (by simp) _ st.1.choose_spec⟩, st.2.1.at fun o q => k it (by simp) o q, st.2.2⟩
  item := by
    intro X hP hw hK hc i pins s σ H E I hf st hg
    subst hP hw hK
    obtain ⟨⟨old, he⟩, hit, hne⟩ := st
    obtain ⟨xs, x, hq, hx⟩ := hg
    obtain ⟨its, rv, tp, hz⟩ := I.tuple hq
    obtain ⟨u, hu, ru⟩ := rv.get hx
    have hel : e < s.heap.objs.size := Heap.lt_size he
    have hil : it < s.heap.objs.size := by obtain ⟨_, q, _⟩ := hit; exact Heap.lt_size q
    have hea : e ≠ a := fun z => by
      subst z
      obtain ⟨o, q, c, _⟩ := tp
      rw [he] at q
      cases q
      exact absurd (Value.type.inj c) (by decide)
    have hia : a ≠ it := fun z => by
      subst z
      obtain ⟨o, q, c, _⟩ := tp
      obtain ⟨o2, q2, c2, _⟩ := hit
      rw [q2] at q
      cases q
      rw [c2] at c
      exact absurd (Value.type.inj c) (by decide)
    have hlt : i < its.toArray.size := by
      have := (List.getElem?_eq_some_iff.mp hu).1
      rw [List.size_toArray]; exact this
    refine wpAny_pyNext_enum_itemD (Draws.tuple (A := X.A.in1) (I.ok.hd hc) it a hia its.toArray) he ⟨hit, tp⟩ hlt hne (by simp [hne, hea]) fun y h' tk hy ho hst hT hsz hk => ?_
    have ey : y = u := by
      have hy : its.toArray[i]? = some y := hy
      rw [List.getElem?_toArray, hu] at hy
      exact (Option.some.inj hy).symm
    subst ey
    refine ⟨_, rfl, wpAny_letOwnedTupleGo_enum (s := { s with heap := h', toks := tk + 1 }) ho fun h'' he' sb => ?_⟩
    have hT2 : h''.get? s.heap.objs.size = some { cls := .type "tuple", data := .seq #[.int i tk, y] } := (sb.2 _ (Nat.ne_of_gt hel)).trans hT
    have new : ObjOk X.prog X.w (upd H s.heap.objs.size (.frz { cls := .type "tuple", data := .seq #[.int i tk, y] } (.tup [.int (i : Nat), x]))) h'' s.heap.objs.size (.frz { cls := .type "tuple", data := .seq #[.int i tk, y] } (.tup [.int (i : Nat), x])) :=
      ⟨hT2, by show 2 ≤ sizeLine; decide, [.int i tk, y], .cons ⟨_, rfl⟩ (.cons ru .nil), ⟨_, hT2, rfl, _, rfl⟩⟩
    have I1 : Inv X pins σ (upd H s.heap.objs.size (.frz { cls := .type "tuple", data := .seq #[.int i tk, y] } (.tup [.int (i : Nat), x]))) { s with heap := h'', toks := tk + 1 } :=
      I.turnedNew (ch := [e, it]) (fun b ob hb q => (sb.2 b (fun z => hb (by simp [z]))).trans (hk b ob (fun z => hb (by simp [z])) (fun z => hb (by simp [z])) q)) hf (Nat.le_refl _) new
    refine ⟨.ref s.heap.objs.size, _, I1, rfl, ⟨_, x, rfl, I.hok.fresh (Nat.le_refl _), ⟨_, rfl, rfl⟩, fun ys hy => by rw [I.tuple_inj hy hq]; exact hx⟩, ⟨⟨y, ?_⟩, hst.1.at fun o q => (sb.2 it (Ne.symm hne)).trans q, hne⟩, fun b hb => ?_⟩
    · rw [show ((i + 1 : Nat) : Int) = (i : Int) + 1 by omega]
      exact he'
    · have hb' : b < s.heap.objs.size := by
        rcases (show b = e ∨ b = it by simpa using hb) with rfl | rfl
        · exact hel
        · exact hil
      rw [upd_ne (Nat.ne_of_lt hb')]
      exact (hf b hb).1
  done := by
    intro X hP hw hK hc i pins s σ H E I hf st hg
    subst hP hw hK
    obtain ⟨⟨old, he⟩, hit, hne⟩ := st
    obtain ⟨xs, hq, hx⟩ := hg
    obtain ⟨its, rv, tp, hz⟩ := I.tuple hq
    obtain ⟨f0, f1, f2, f3, f4, f5⟩ := hf it (by simp)
    have hl := rv.length
    have D : Draws X.prog X.w X.A.in1 it [it, a] i (fun _ _ => False) (fun j h => j = i ∧ h.IsTupleIter it a i ∧ h.IsTuple a its.toArray) :=
      { live := fun j h st => let ⟨o, ho, _⟩ := st.2.1; ⟨o, ho⟩
        frame := fun j h h' st k => ⟨st.1, st.2.1.at fun o q => k it (by simp) o q, st.2.2.at fun o q => k a (by simp) o q⟩
        item := fun j s Q E hj st _ => absurd st.1 (Nat.ne_of_lt hj)
        done := fun s Q E st hE => wpAny_nextOf_tuple_end (I.ok.hd hc) st.2.1 st.2.2 (by rw [List.getElem?_toArray, List.getElem?_eq_none]; omega) hE }
    exact wpAny_pyNext_enum_endD D he ⟨rfl, hit, tp⟩ fun h' eb => ⟨rfl, I.turned (t' := s.toks) (fun b o hb q => eb b o hb q) f0 f1 f3 f4 f5⟩
  self := fun A i s Q E st h => wpAny_pyIter_enum st.1.choose_spec h
/-- the list at a, each item in a new pair -/
def IteL (K : Fg) (a : Addr) : It :=
  ⟨fun i H => ∃ (xs : List V) (x : V), SqL K H a xs ∧ xs[i]? = some x, fun i H v H' => ∃ T x, v = .ref T ∧ H T = none ∧ (∃ o : Obj, o.dict = none ∧ H' = upd H T (.frz o (.tup [.int (i : Nat), x]))) ∧ ∀ xs, SqL K H a xs → xs[i]? = some x, fun i H => ∃ xs : List V, SqL K H a xs ∧ xs.length ≤ i⟩
theorem turn_enumL {P : Program} {w : World} {K : Fg} {elts : List Expr} {kk : Nat} {tpos : Pos} (a e it : Addr) :
    Turn P w K (.Tuple elts kk tpos) (IteL K a) [e, it] e (fun i h => (∃ old, IsEnum h e it ((i : Nat) : Int) old) ∧ h.IsListIter it a i ∧ e ≠ it) where
  mem := by simp
  obj := fun i h st b hb => by
    obtain ⟨⟨old, he⟩, ⟨o, ho, hc, hd⟩, _⟩ := st
    rcases (show b = e ∨ b = it by simpa using hb) with rfl | rfl
    · exact ⟨_, he, fun v q => nomatch q⟩
    · exact ⟨o, ho, fun v q => by rw [hd] at q; cases q⟩
  keep := fun i h h' st k => ⟨⟨st.1.choose, k e (by simp) _ st.1.choose_spec⟩, st.2.1.at fun o q => k it (by simp) o q, st.2.2⟩
  item := by
    intro X hP hw hK hc i pins s σ H E I hf st hg
    subst hP hw hK
    obtain ⟨⟨old, he⟩, hit, hne⟩ := st
    obtain ⟨xs, x, hq, hx⟩ := hg
    obtain ⟨its, rv, p, hz⟩ := I.list hq
    obtain ⟨u, hu, ru⟩ := rv.get hx
    have hel : e < s.heap.objs.size := Heap.lt_size he
    have hil : it < s.heap.objs.size := by obtain ⟨_, q, _⟩ := hit; exact Heap.lt_size q
    refine wpAny_pyNext_enum_item he hit p.isList (x := u) (by simpa using hu) hne fun h' ho hit' hT hsz hk => ?_
    refine ⟨_, rfl, wpAny_letOwnedTupleGo_enum (s := { s with heap := h', toks := s.toks + 1 }) ho fun h'' he' sb => ?_⟩
    have hT2 : h''.get? s.heap.objs.size = some { cls := .type "tuple", data := .seq #[.int i s.toks, u] } := (sb.2 _ (Nat.ne_of_gt hel)).trans hT
    have new : ObjOk X.prog X.w (upd H s.heap.objs.size (.frz { cls := .type "tuple", data := .seq #[.int i s.toks, u] } (.tup [.int (i : Nat), x]))) h'' s.heap.objs.size (.frz { cls := .type "tuple", data := .seq #[.int i s.toks, u] } (.tup [.int (i : Nat), x])) :=
      ⟨hT2, by show 2 ≤ sizeLine; decide, [.int i s.toks, u], .cons ⟨_, rfl⟩ (.cons ru .nil), ⟨_, hT2, rfl, _, rfl⟩⟩
    have I1 : Inv X pins σ (upd H s.heap.objs.size (.frz { cls := .type "tuple", data := .seq #[.int i s.toks, u] } (.tup [.int (i : Nat), x]))) { s with heap := h'', toks := s.toks + 1 } :=
      I.turnedNew (ch := [e, it]) (fun b ob hb q => (sb.2 b (fun z => hb (by simp [z]))).trans (hk b ob (fun z => hb (by simp [z])) (fun z => hb (by simp [z])) q)) hf (Nat.le_refl _) new
    refine ⟨.ref s.heap.objs.size, _, I1, rfl, ⟨_, x, rfl, I.hok.fresh (Nat.le_refl _), ⟨_, rfl, rfl⟩, fun ys hy => by rw [I.list_inj hy hq]; exact hx⟩, ⟨⟨u, ?_⟩, hit'.at fun o q => (sb.2 it (Ne.symm hne)).trans q, hne⟩, fun b hb => ?_⟩
    · rw [show ((i + 1 : Nat) : Int) = (i : Int) + 1 by omega]
      exact he'
    · have hb' : b < s.heap.objs.size := by
        rcases (show b = e ∨ b = it by simpa using hb) with rfl | rfl
        · exact hel
        · exact hil
      rw [upd_ne (Nat.ne_of_lt hb')]
      exact (hf b hb).1
  done := by
    intro X hP hw hK hc i pins s σ H E I hf st hg
    subst hP hw hK
    obtain ⟨⟨old, he⟩, hit, hne⟩ := st
    obtain ⟨xs, hq, hx⟩ := hg
    obtain ⟨its, rv, p, hz⟩ := I.list hq
    obtain ⟨f0, f1, f2, f3, f4, f5⟩ := hf it (by simp)
    have hl := rv.length
    exact wpAny_pyNext_enum_end (I.ok.hd hc) he hit p.isList (by simp; omega) fun h' eb => ⟨rfl, I.turned (t' := s.toks) (fun b o hb q => eb b o hb q) f0 f1 f3 f4 f5⟩
  self := fun A i s Q E st h => wpAny_pyIter_enum st.1.choose_spec h
def iEnumA (K : Fg) (ta : TA) : TI := fun σ H R => ta σ H fun vs H1 => ∃ a xs, vs = [.ref a] ∧ ((SqT K H1 a xs ∧ R (IteT K a) H1) ∨ (SqL K H1 a xs ∧ R (IteL K a) H1))
theorem pi_enumA {X : Cx} {e : Expr} {ta : TA} {p pos tpos : Pos} {elts : List Expr} {kk : Nat} (hg : Gl X "enumerate") (hm : X.mg "enumerate" = none) (ha : PA X [e] ta) (hs : starEach [e] X.env = [(false, eval e X.env)] := by rfl) :
    PI X (.Tuple elts kk tpos) (.Call (.Name "enumerate" p) [e] [] pos) (iEnumA X.K ta) := by
  refine ⟨fun pins s σ H R I h => Call_ (ld_blt I hg hm boot_enumerate (PyProof.Rows.callWith_type1 (thn (ha.run pos pins s σ H _ I h) fun us s1 ⟨vs, H1, I1, r1, q1⟩ => ?_) hs rfl))⟩
  obtain ⟨a, xs, ex, q⟩ := q1
  subst ex
  cases r1 with
  | cons r rr =>
    cases rr
    cases r
    have fpn : ∀ b ∈ [s1.heap.objs.size + 1, s1.heap.objs.size], FpOk X pins H1 b := fun b hb => by
      have hle : s1.heap.objs.size ≤ b := by
        rcases (show b = s1.heap.objs.size + 1 ∨ b = s1.heap.objs.size by simpa using hb) with z | z <;> rw [z]
        · exact Nat.le_add_right _ _
        · exact Nat.le_refl _
      exact I1.fpOk hle (I1.hok.fresh hle)
    rcases q with ⟨hq, q⟩ | ⟨hq, q⟩
    · obtain ⟨its, rv, tp, hz⟩ := I1.tuple hq
      refine enum_call1 (begins_tuple a its.toArray) tp fun h' he hit hk => wpAny_pyIter_enum he ?_
      have I2 : Inv X pins σ H1 { s1 with heap := h' } := I1.kept (t' := s1.toks) hk
      exact ⟨s1.heap.objs.size + 1, [s1.heap.objs.size + 1, s1.heap.objs.size], _, _, H1, rfl, I2, turn_enumT a (s1.heap.objs.size + 1) s1.heap.objs.size, ⟨⟨.none, he⟩, ⟨_, hit, rfl, rfl⟩, Nat.succ_ne_self _⟩, fpn, q⟩
    · obtain ⟨its, rv, lp, hz⟩ := I1.list hq
      refine call_enumerate_list lp.isList fun h' he hit hsz hk => wpAny_pyIter_enum he ?_
      have I2 : Inv X pins σ H1 { s1 with heap := h' } := I1.kept (t' := s1.toks) hk
      exact ⟨s1.heap.objs.size + 1, [s1.heap.objs.size + 1, s1.heap.objs.size], _, _, H1, rfl, I2, turn_enumL a (s1.heap.objs.size + 1) s1.heap.objs.size, ⟨⟨.none, he⟩, hit, Nat.succ_ne_self _⟩, fpn, q⟩
/-- pairs of place and item -/
def enumD (ds : List PyData) : List PyData := (List.range ds.length).zipWith (fun i d => .tuple [.int (i : Nat), d]) ds
theorem enumD_get {ds : List PyData} {i : Nat} {d : PyData} (h : (enumD ds)[i]? = some d) : ∃ x, ds[i]? = some x ∧ d = .tuple [.int (i : Nat), x] := by
  unfold enumD at h
  rw [List.getElem?_zipWith] at h
  cases h1 : (List.range ds.length)[i]? with
  | none => rw [h1] at h; cases h
  | some j =>
    rw [h1] at h
    cases h2 : ds[i]? with
    | none => rw [h2] at h; cases h
    | some x =>
      rw [h2] at h
      have hi := (List.getElem?_eq_some_iff.mp h2).1
      rw [List.getElem?_range hi] at h1
      cases h1
      cases h
      exact ⟨x, rfl, rfl⟩
theorem enumD_len (ds : List PyData) : (enumD ds).length = ds.length := by unfold enumD; rw [List.length_zipWith, List.length_range, Nat.min_self]
theorem iter_enumT {K : Fg} {w : Bool} {F : Hp} {a : Addr} {vs : List V} {ds : List PyData} (h : SqT K F a vs) (r : Reps K F vs ds) : IterOk K w F (IteT K a) (enumD ds) where
  go := fun F1 H1 i e1 e2 hi => let ⟨x, hx⟩ := r.has (by rw [enumD_len] at hi; exact hi); ⟨vs, x, Same.sqT (e1.trans e2) h, hx⟩
  stop := fun F1 H1 i e1 e2 hi => ⟨vs, Same.sqT (e1.trans e2) h, by rw [r.length]; rw [enumD_len] at hi; exact hi⟩
  yld := fun F1 H1 i x H' d e1 e2 hd hy => by
    obtain ⟨T, y, rfl, hT, ⟨o, hd2, rfl⟩, hy⟩ := hy
    obtain ⟨z, hz, rfl⟩ := enumD_get hd
    have hy := hy vs (Same.sqT (e1.trans e2) h)
    have rz := (r.get hz hy).mono e1
    exact ⟨_, (RepR.newT (σ := []) (ow := noA) e2 hd2 hT (.cons (.int _) (.cons rz .nil))).1.b _, Grow.frozenT e2 hT⟩
theorem iter_enumL {K : Fg} {w : Bool} {F : Hp} {a : Addr} {vs : List V} {ds : List PyData} (h : SqL K F a vs) (r : Reps K F vs ds) : IterOk K w F (IteL K a) (enumD ds) where
  go := fun F1 H1 i e1 e2 hi => let ⟨x, hx⟩ := r.has (by rw [enumD_len] at hi; exact hi); ⟨vs, x, (e1.trans e2).seq h, hx⟩
  stop := fun F1 H1 i e1 e2 hi => ⟨vs, (e1.trans e2).seq h, by rw [r.length]; rw [enumD_len] at hi; exact hi⟩
  yld := fun F1 H1 i x H' d e1 e2 hd hy => by
    obtain ⟨T, y, rfl, hT, ⟨o, hd2, rfl⟩, hy⟩ := hy
    obtain ⟨z, hz, rfl⟩ := enumD_get hd
    have hy := hy vs ((e1.trans e2).seq h)
    have rz := (r.get hz hy).mono e1
    exact ⟨_, (RepR.newT (σ := []) (ow := noA) e2 hd2 hT (.cons (.int _) (.cons rz .nil))).1.b _, Grow.frozenT e2 hT⟩
def giEnum (ga : DA) : DI := fun ρ Q => ga ρ fun _ rs ρ' => ∃ r, rs = [r] ∧ ok (itemsR ρ' r) fun p => Q (enumD p.2) ρ'
section
variable {X : Cx} {pv : Pins} {pos p tpos : Pos} {elts : List Expr} {kk : Nat} {e : Expr} {ga : DA}
theorem di_enum (hg : Gl X "enumerate") (hm : X.mg "enumerate" = none) (ha : DAv X pv [e] ga) (hs : starEach [e] X.env = [(false, eval e X.env)] := by rfl) : DIv X pv (.Tuple elts kk tpos) (.Call (.Name "enumerate" p) [e] [] pos) (giEnum ga) :=
  PI.to (pi_enumA hg hm ha hs) fun σ H R ⟨ρ, F, fps, Q0, S, ex, h, k⟩ => by
    refine ⟨ρ, F, fps, _, S, ex, h, fun q rs ρ' vs H' F' fps' tf ⟨r, er, ⟨b, ds⟩, e1, q0⟩ S' s R1 _ => ?_⟩
    subst er
    obtain ⟨v, f, rfl, R2, hf⟩ := R1.one
    have ef : tf = f := funext fun a => propext (hf a)
    subst ef
    have dt : Dsj tf (own ρ' fps') := fun a z p => (R2.out a z).2.2.1 p
    obtain ⟨G, a, ws, rfl, rr, ⟨z, hq⟩ | ⟨z, hq⟩⟩ := itemsR_rep S' R2 e1
    · exact ⟨a, ws, rfl, .inr ⟨G.inn.seq hq, k _ ρ' _ H' _ fps' q0 (G.sta S' dt) (G.step s).no (iter_enumL hq rr)⟩⟩
    · exact ⟨a, ws, rfl, .inl ⟨Same.sqT G.inn hq, k _ ρ' _ H' _ fps' q0 (G.sta S' dt) (G.step s).no (iter_enumT hq rr)⟩⟩
variable {ρ : Env} {QI : List PyData → Env → Prop}
theorem giEnum_i (h : ga ρ fun _ rs ρ' => ∃ r, rs = [r] ∧ ok (itemsR ρ' r) fun p => QI (enumD p.2) ρ') : giEnum ga ρ QI := h
theorem one_ex {r : Res} {A : Res → Prop} (h : A r) : ∃ r', [r] = [r'] ∧ A r' := ⟨r, rfl, h⟩
end
end Dt

namespace Dt
open PySem PySem.Spec PyProof.Rows L2
open Sem (wp)

/-! ### a tuple turned round: t[::-1] -/
section
variable {prog : Program} {w : World} {A : Around} {E : Value → Shared → Prop} {s : Shared}
end
theorem Reps.snocs {K : Fg} {F : Hp} : ∀ {vs ws : List V} {ds es : List PyData}, Reps K F vs ds → Reps K F ws es → Reps K F (vs ++ ws) (ds ++ es)
  | _, _, _, _, .nil, r => r
  | _, _, _, _, .cons h t, r => .cons h (Reps.snocs t r)
theorem Reps.rev {K : Fg} {F : Hp} : ∀ {vs : List V} {ds : List PyData}, Reps K F vs ds → Reps K F vs.reverse ds.reverse
  | _, _, .nil => .nil
  | _, _, .cons h t => by rw [List.reverse_cons, List.reverse_cons]; exact Reps.snocs (Reps.rev t) (.cons h .nil)
section
variable {X : Cx} {pv : Pins} {pos p1 p2 p3 : Pos} {e : Expr} {g : DE} {k : Nat}
variable {ρ : Env} {Q : Bool → Res → Env → Prop} {isL : Bool}
end
end Dt

namespace Dt
open PySem PySem.Spec PyProof.Rows L2
open Sem (wp)

/-! ### a text some times -/
def repS (x : Str) (n : Nat) : Str := ⟨(List.replicate n x.cps).foldl (· ++ ·) #[]⟩
theorem fold_mem (a : Array Nat) (c : Nat) : ∀ (n : Nat) (acc : Array Nat), c ∈ ((List.replicate n a).foldl (· ++ ·) acc).toList → c ∈ acc.toList ∨ c ∈ a.toList
  | 0, acc, h => .inl (by simpa using h)
  | n + 1, acc, h => by
    rw [List.replicate_succ, List.foldl_cons] at h
    rcases fold_mem a c n _ h with z | z
    · rw [Array.toList_append] at z
      exact List.mem_append.mp z
    · exact .inr z
theorem Signs.rep {x : Str} (h : Signs x) (n : Nat) : Signs (repS x n) := fun c hc => by
  rcases fold_mem x.cps c n #[] hc with z | z
  · simp at z
  · exact h c z
end Dt

namespace Dt
open PySem PySem.Spec PyProof.Rows L2

/-! ### tuples of ints, one behind another -/
end Dt

namespace Dt
open PySem PySem.Spec PyProof.Rows L2

/-! ### an empty dict -/
section
variable {X : Cx} {pv : Pins} {pos : Pos}
end
end Dt

namespace Dt
open PySem PySem.Spec PyProof.Rows L2

/-! ### str(i) -/
def strD : PyData → Option PyData
  | .int i => if i.natAbs.log2 < 1920 then some (.str (toString i)) else none
  | _ => none
theorem strD_e {i : Int} (h : i.natAbs < 2 ^ 1000) : strD (.int i) = some (.str (toString i)) := by
  show (if _ then _ else _) = _
  rw [if_pos]
  by_cases hz : i.natAbs = 0
  · rw [hz]; decide
  · rw [Nat.log2_lt hz]
    exact Nat.lt_trans h (Nat.pow_lt_pow_right (by decide) (by decide))
end Dt

namespace Dt
open PySem PySem.Spec PyProof.Rows L2

/-! ### a < b < c < d -/
section
variable {X : Cx} {op op' op'' : CmpOp} {r r' r'' : R2} {a b c d : Expr} {ta tb tc td : TE} {pos : Pos}
end
def gChain3 (f f' f'' : Env → Res → Res → Option Res) (ga gb gc gd : DE) : DE := fun ρ Q => gSeq2 ga gb ρ fun q r1 r2 ρ2 => ok (f ρ2 r1 r2) fun res => ok (asB res) fun b => (∃ d, r2 = .cl d) ∧ if b = true then gc ρ2 fun q3 r3 ρ3 => ok (f' ρ3 r2 r3) fun res3 => ok (asB res3) fun b3 => (∃ d, r3 = .cl d) ∧ (if b3 = true then gd ρ3 fun q4 r4 ρ4 => ok (f'' ρ4 r3 r4) fun res4 => Q ((q && q3) && q4) res4 ρ4 else Q (q && q3) (.cl (.bool false)) ρ3) else Q q (.cl (.bool false)) ρ2
section
variable {X : Cx} {pv : Pins} {op op' op'' : CmpOp} {r r' r'' : R2} {a b c d : Expr} {ga gb gc gd : DE} {pos : Pos} {f f' f'' : Env → Res → Res → Option Res}
variable {ρ : Env} {Q : Bool → Res → Env → Prop}
theorem gChain3_i (h : ga ρ fun q1 r1 ρ1 => gb ρ1 fun q2 r2 ρ2 => (r1.deep = true → q2 = true) ∧ ok (f ρ2 r1 r2) fun res => ok (asB res) fun b => (∃ d, r2 = .cl d) ∧ if b = true then gc ρ2 fun q3 r3 ρ3 => ok (f' ρ3 r2 r3) fun res3 => ok (asB res3) fun b3 => (∃ d, r3 = .cl d) ∧ (if b3 = true then gd ρ3 fun q4 r4 ρ4 => ok (f'' ρ4 r3 r4) fun res4 => Q (((q1 && q2) && q3) && q4) res4 ρ4 else Q ((q1 && q2) && q3) (.cl (.bool false)) ρ3) else Q (q1 && q2) (.cl (.bool false)) ρ2) : gChain3 f f' f'' ga gb gc gd ρ Q := h
end
end Dt

namespace Dt
open PySem PySem.Spec PyProof.Rows

/-! ### lines of webs, judged -/
end Dt

namespace Dt
open PySem PySem.Spec PyProof.Rows L2

/-! ### what can be told, by its weight: put together from its parts -/
structure Tl (n c : Nat) (d : PyData) : Prop where
  dep : d.depth ≤ n
  bulk : d.bulk ≤ c
  sh : d.showable = true
  lv : d.leavesShort 41 = true
  sg : Signs d.shown
structure TlA (n c : Nat) (ds : List PyData) : Prop where
  dep : ∀ d, d ∈ ds → d.depth ≤ n
  bulk : PyData.bulkAll ds ≤ c
  sh : ∀ d, d ∈ ds → d.showable = true
  lv : ∀ d, d ∈ ds → d.leavesShort 41 = true
  sg : ∀ d, d ∈ ds → Signs d.shown
theorem Tl.mono {n m c e : Nat} {d : PyData} (h : Tl n c d) (h1 : n ≤ m) (h2 : c ≤ e) : Tl m e d := ⟨Nat.le_trans h.dep h1, Nat.le_trans h.bulk h2, h.sh, h.lv, h.sg⟩
theorem TlA.mono {n m c e : Nat} {d : List PyData} (h : TlA n c d) (h1 : n ≤ m) (h2 : c ≤ e) : TlA m e d := ⟨fun d hd => Nat.le_trans (h.dep d hd) h1, Nat.le_trans h.bulk h2, h.sh, h.lv, h.sg⟩
theorem Sm.tl {n c : Nat} {d : PyData} (h : Sm n c d) : Tl (n + 1) c d := let ⟨h1, h2, h3, h4⟩ := h.all; ⟨h1, h2, h3, h4, h.signs⟩
theorem Tl.none : Tl 1 0 .none := (Sm.none (n := 0) (c := 0)).tl
theorem Tl.bool (b : Bool) : Tl 1 0 (.bool b) := (Sm.bool (n := 0) (c := 0) b).tl
theorem Tl.edict : Tl 1 0 (.dict []) := (Sm.edict (n := 0) (c := 0)).tl
theorem Tl.int {i : Int} (h : i.natAbs < 10 ^ 40) : Tl 1 0 (.int i) := (Sm.int (n := 0) (c := 0) h).tl
theorem Tl.intS {i : Int} (h : -1000000000000000000 ≤ i) (h2 : i ≤ 1000000000000000000) : Tl 1 0 (.int i) := .int (by omega)
theorem Tl.str {x : Str} {c : Nat} (h : x.cps.size ≤ c) (h2 : Signs x) : Tl 1 c (.str x) := (Sm.str (n := 0) h h2).tl
theorem Tl.word (s : String) (h : (Str.ofString s).cps.size ≤ 100) : Tl 1 100 (.str (Str.ofString s)) := .str h (Signs.lit s)
theorem TlA.nil : TlA 0 0 [] := ⟨fun d h => (nomatch h), by simp [PyData.bulkAll], fun d h => (nomatch h), fun d h => (nomatch h), fun d h => (nomatch h)⟩
theorem TlA.cons {n m c e : Nat} {d : PyData} {ds : List PyData} (h : Tl n c d) (h2 : TlA m e ds) : TlA (max n m) (c + e + 1) (d :: ds) := ⟨fun x hx => by
  rcases List.mem_cons.mp hx with rfl | hx
  · have := h.dep; omega
  · have := h2.dep x hx; omega, by
  have := h.bulk; have := h2.bulk
  simp only [PyData.bulkAll]; omega, fun x hx => by
  rcases List.mem_cons.mp hx with rfl | hx
  · exact h.sh
  · exact h2.sh x hx, fun x hx => by
  rcases List.mem_cons.mp hx with rfl | hx
  · exact h.lv
  · exact h2.lv x hx, fun x hx => by
  rcases List.mem_cons.mp hx with rfl | hx
  · exact h.sg
  · exact h2.sg x hx⟩
theorem TlA.one {n c : Nat} {d : PyData} (h : Tl n c d) : TlA n (c + 1) [d] := (TlA.cons h .nil).mono (by omega) (by omega)
theorem bulkAll_app : ∀ a b : List PyData, PyData.bulkAll (a ++ b) = PyData.bulkAll a + PyData.bulkAll b
  | [], b => by simp [PyData.bulkAll]
  | x :: a, b => by simp only [List.cons_append, PyData.bulkAll, bulkAll_app a b]; omega
theorem bulkAll_sub : ∀ {a b : List PyData}, a.Sublist b → PyData.bulkAll a ≤ PyData.bulkAll b
  | _, _, .slnil => Nat.le_refl _
  | _, _, .cons x h => by have := bulkAll_sub h; simp only [PyData.bulkAll]; omega
  | _, _, .cons₂ x h => by have := bulkAll_sub h; simp only [PyData.bulkAll]; omega
theorem TlA.app {n m c e : Nat} {a b : List PyData} (h : TlA n c a) (h2 : TlA m e b) : TlA (max n m) (c + e) (a ++ b) := ⟨fun x hx => by
  rcases List.mem_append.mp hx with hx | hx
  · have := h.dep x hx; omega
  · have := h2.dep x hx; omega, by
  have := h.bulk; have := h2.bulk
  rw [bulkAll_app]; omega, fun x hx => (List.mem_append.mp hx).elim (h.sh x) (h2.sh x), fun x hx => (List.mem_append.mp hx).elim (h.lv x) (h2.lv x), fun x hx => (List.mem_append.mp hx).elim (h.sg x) (h2.sg x)⟩
theorem TlA.sub {n c : Nat} {a b : List PyData} (h : TlA n c b) (s : a.Sublist b) : TlA n c a := ⟨fun x hx => h.dep x (s.subset hx), Nat.le_trans (bulkAll_sub s) h.bulk, fun x hx => h.sh x (s.subset hx), fun x hx => h.lv x (s.subset hx), fun x hx => h.sg x (s.subset hx)⟩
theorem cutD_sub {α : Type} (xs : List α) (lo hi : Option Int) : (cutD xs lo hi).Sublist xs := (List.take_sublist _ _).trans (List.drop_sublist _ _)
theorem TlA.cut {n c : Nat} {ds : List PyData} (h : TlA n c ds) (lo hi : Option Int) : TlA n c (cutD ds lo hi) := h.sub (cutD_sub ds lo hi)
theorem bulkAll_rev : ∀ a : List PyData, PyData.bulkAll a.reverse = PyData.bulkAll a
  | [] => rfl
  | x :: a => by rw [List.reverse_cons, bulkAll_app, bulkAll_rev a]; simp only [PyData.bulkAll]; omega
theorem TlA.rev {n c : Nat} {a : List PyData} (h : TlA n c a) : TlA n c a.reverse := ⟨fun x hx => h.dep x (List.mem_reverse.mp hx), by rw [bulkAll_rev]; exact h.bulk, fun x hx => h.sh x (List.mem_reverse.mp hx), fun x hx => h.lv x (List.mem_reverse.mp hx), fun x hx => h.sg x (List.mem_reverse.mp hx)⟩
/-- each of at most k items -/
theorem TlA.all {n c : Nat} {ds : List PyData} (k : Nat) (h : ∀ d, d ∈ ds → Tl n c d) (hk : ds.length ≤ k) : TlA n (k * (c + 1)) ds := ⟨fun d hd => (h d hd).dep, by
  have := bulkAll_le (c := c) (ds := ds) fun d hd => (h d hd).bulk
  have := Nat.mul_le_mul_right (c + 1) hk
  omega, fun d hd => (h d hd).sh, fun d hd => (h d hd).lv, fun d hd => (h d hd).sg⟩
theorem TlA.rep {n c : Nat} {d : PyData} (h : Tl n c d) (k : Nat) : TlA n (k * (c + 1)) (List.replicate k d) := .all k (fun x hx => by rw [List.eq_of_mem_replicate hx]; exact h) (by rw [List.length_replicate]; exact Nat.le_refl _)
theorem TlA.each {n c : Nat} {ds : List PyData} (h : TlA n c ds) {d : PyData} (hd : d ∈ ds) : Tl n c d := ⟨h.dep d hd, by
  have : ∀ {ds : List PyData}, d ∈ ds → d.bulk ≤ PyData.bulkAll ds := by
    intro ds
    induction ds with
    | nil => intro h; cases h
    | cons x r ih =>
      intro h
      simp only [PyData.bulkAll]
      rcases List.mem_cons.mp h with rfl | h
      · omega
      · have := ih h; omega
  exact Nat.le_trans (this hd) h.bulk, h.sh d hd, h.lv d hd, h.sg d hd⟩
theorem TlA.len {n c : Nat} : ∀ {ds : List PyData}, TlA n c ds → ds.length ≤ c := fun {ds} h => by
  have : ∀ ds : List PyData, ds.length ≤ PyData.bulkAll ds := by
    intro ds
    induction ds with
    | nil => exact Nat.zero_le _
    | cons x r ih => simp only [PyData.bulkAll, List.length_cons]; omega
  exact Nat.le_trans (this ds) h.bulk
theorem Tl.tuple {n c : Nat} {ds : List PyData} (h : TlA n c ds) : Tl (n + 1) c (.tuple ds) := by
  refine ⟨?_, ?_, ?_, ?_, ?_⟩
  · have := depthAll_le h.dep
    simp only [PyData.depth]; omega
  · simp only [PyData.bulk]; exact h.bulk
  · simp only [PyData.showable]; exact showableAll_of h.sh
  · simp only [PyData.leavesShort]; exact leavesAll_of h.lv
  · simp only [PyData.shown]
    unfold tupleText
    refine Signs.app (Signs.app (Signs.lit _) (Signs.join (fun t ht => ?_) (Signs.lit _))) (by split <;> exact Signs.lit _)
    obtain ⟨d, hd, rfl⟩ := shownAll_mem ht
    exact h.sg d hd
theorem Tl.list {n c : Nat} {ds : List PyData} (h : TlA n c ds) : Tl (n + 1) c (.list ds) := by
  refine ⟨?_, ?_, ?_, ?_, ?_⟩
  · have := depthAll_le h.dep
    simp only [PyData.depth]; omega
  · simp only [PyData.bulk]; exact h.bulk
  · simp only [PyData.showable]; exact showableAll_of h.sh
  · simp only [PyData.leavesShort]; exact leavesAll_of h.lv
  · simp only [PyData.shown]
    rw [listText_eq_join]
    refine Signs.app (Signs.app (Signs.lit _) (Signs.join (fun t ht => ?_) (Signs.lit _))) (Signs.lit _)
    obtain ⟨d, hd, rfl⟩ := shownAll_mem ht
    exact h.sg d hd
theorem TlA.ints {l : List Int} (h : ∀ i, i ∈ l → -1000000000000000000 ≤ i ∧ i ≤ 1000000000000000000) (k : Nat) (hk : l.length ≤ k) : TlA 1 k (pis l) :=
  (TlA.all k (fun d hd => by
    obtain ⟨i, rfl, hi⟩ := mem_ints hd
    exact Tl.intS (h i hi).1 (h i hi).2) (by rw [List.length_map]; exact hk)).mono (Nat.le_refl _) (by omega)
theorem Tl.ln {p : Ln} (h1 : -1000000000000000000 ≤ p.1 ∧ p.1 ≤ 1000000000000000000) (h2 : -1000000000000000000 ≤ p.2 ∧ p.2 ≤ 1000000000000000000) : Tl 2 2 (lnD p) :=
  (Tl.tuple (.cons (Tl.intS h1.1 h1.2) (.cons (Tl.intS h2.1 h2.2) .nil))).mono (by omega) (by omega)
theorem TlA.lns {m : Nat} {ls : List Ln} (h : ∀ p, p ∈ ls → 0 ≤ p.1 ∧ p.1 < p.2 ∧ p.2 < m) (hm : m ≤ 1000) (k : Nat) (hk : ls.length ≤ k) : TlA 2 (k * 3) (ls.map lnD) :=
  .all k (fun d hd => by
    obtain ⟨p, hp, rfl⟩ := List.mem_map.mp hd
    obtain ⟨a, b, c⟩ := h p hp
    exact Tl.ln (by omega) (by omega)) (by rw [List.length_map]; exact hk)
/-- a web, told -/
theorem Tl.web {m : Nat} {ls : List Ln} (h : IsWeb m ls) (hm : m ≤ 11) : Tl 4 400 (webD m ls) := by
  have hl : ls.length ≤ 121 := Nat.le_trans h.len (Nat.mul_le_mul hm hm)
  exact (Tl.tuple (.cons (Tl.intS (by omega) (by omega)) (.cons (Tl.tuple (TlA.lns (fun p hp => h.mem hp) (by omega) 121 hl)) .nil))).mono (by omega) (by omega)
theorem repr_t {ρ : Env} {r : Res} {d : PyData} {n c : Nat} (e : r.dat ρ = some d) (h : Tl n c d) (hn : n ≤ 50 := by omega) (hc : c ≤ 300000 := by omega) : dat1 reprD ρ [r] = some (.cl (.str d.shown)) := by
  have h5 := PyData.shown_le_bulk 41 (by decide) d h.lv
  have h2 := h.bulk
  have h1 := h.dep
  exact repr_e e h.sh (by rw [sizeLine_eq]; omega) (by omega)
theorem Tl.lay {n c : Nat} {d : PyData} (h : Tl n c d) : PyData.canLay0 (.str d.shown) = true := h.sg.ok
theorem ne_selfT {n c : Nat} {d : PyData} (h : Tl n c d) : eqD true (.str d.shown) (.str d.shown) = some false := by rw [ne_s _ _ h.lay h.lay]; simp
theorem eq_selfT {n c : Nat} {d : PyData} (h : Tl n c d) : eqD false (.str d.shown) (.str d.shown) = some true := by rw [eq_s _ _ h.lay h.lay]; simp
/-- told at all: by some weight that is small enough -/
def Tld (d : PyData) : Prop := ∃ n c, Tl n c d ∧ n ≤ 40 ∧ c ≤ 100000
theorem Tld.of {n c : Nat} {d : PyData} (h : Tl n c d) (hn : n ≤ 40 := by omega) (hc : c ≤ 100000 := by omega) : Tld d := ⟨n, c, h, hn, hc⟩
theorem Tld.tl {d : PyData} (h : Tld d) : Tl 40 100000 d := let ⟨_, _, h, h1, h2⟩ := h; h.mono h1 h2
theorem ite_d {A B : Prop} {p : Prop} [Decidable p] (h1 : p → A) (h2 : ¬ p → B) : if decide p = true then A else B := by
  by_cases h : p
  · rw [if_pos (decide_eq_true h)]; exact h1 h
  · rw [if_neg (by rw [decide_eq_false h]; exact Bool.false_ne_true)]; exact h2 h
theorem ite_nd {A B : Prop} {p : Prop} [Decidable p] (h1 : ¬ p → A) (h2 : p → B) : if (!decide p) = true then A else B := by
  by_cases h : p
  · rw [if_neg (by rw [decide_eq_true h]; exact Bool.false_ne_true)]; exact h2 h
  · rw [if_pos (by rw [decide_eq_false h]; rfl)]; exact h1 h
theorem Tl.ovlst {n c : Nat} {ds : List PyData} (h : TlA n c ds) : Tl (n + 1) c (OV.lst ds).toD := Tl.list h
theorem Tl.ovfr {n c : Nat} {d : PyData} (h : Tl n c d) : Tl n c (OV.fr d).toD := h
theorem num_len {i : Int} (h : -1000000000000000000 ≤ i) (h2 : i ≤ 1000000000000000000) : (Str.ofString (toString i)).length ≤ 41 := by
  rw [ofString_len]
  exact int_text_length_le10 (k := 40) (by decide) (by omega)
theorem Tl.num {i : Int} (h : -1000000000000000000 ≤ i) (h2 : i ≤ 1000000000000000000) : Tl 1 41 (.str (Str.ofString (toString i))) := .str (num_len h h2) (Signs.lit _)
theorem TlA.take {n c : Nat} {ds : List PyData} (h : TlA n c ds) (k : Nat) : TlA n c (ds.take k) := h.sub (List.take_sublist _ _)
theorem TlA.drop {n c : Nat} {ds : List PyData} (h : TlA n c ds) (k : Nat) : TlA n c (ds.drop k) := h.sub (List.drop_sublist _ _)
theorem str_i {ρ : Env} {i : Int} (h : -1000000000000000000 ≤ i) (h2 : i ≤ 1000000000000000000) : dat1 strD ρ [.cl (.int i)] = some (.cl (.str (Str.ofString (toString i)))) := by
  show (strD (.int i)).map Res.cl = _
  rw [strD_e (by omega)]
  rfl
/-! ### bounds of lengths, put together from the parts -/
def Lb {α : Type} (n : Nat) (l : List α) : Prop := l.length ≤ n
theorem Lb.of {α : Type} {l : List α} {n : Nat} (h : l.length ≤ n) : Lb n l := h
theorem Lb.nil {α : Type} : Lb 0 ([] : List α) := Nat.le_refl _
theorem Lb.cons {α : Type} {a : α} {l : List α} {n : Nat} (h : Lb n l) : Lb (n + 1) (a :: l) := Nat.succ_le_succ h
theorem Lb.app {α : Type} {a b : List α} {n m : Nat} (h : Lb n a) (h2 : Lb m b) : Lb (n + m) (a ++ b) := by
  unfold Lb at *; rw [List.length_append]; omega
theorem Lb.cut {α : Type} {a : List α} {n : Nat} {lo hi : Option Int} (h : Lb n a) : Lb n (cutD a lo hi) := Nat.le_trans (cutD_sub a lo hi).length_le h
theorem Lb.rev {α : Type} {a : List α} {n : Nat} (h : Lb n a) : Lb n a.reverse := by unfold Lb at *; rw [List.length_reverse]; exact h
theorem Lb.map {α β : Type} {f : α → β} {a : List α} {n : Nat} (h : Lb n a) : Lb n (a.map f) := by unfold Lb at *; rw [List.length_map]; exact h
theorem Lb.filter {α : Type} {f : α → Bool} {a : List α} {n : Nat} (h : Lb n a) : Lb n (a.filter f) := Nat.le_trans (List.length_filter_le _ _) h
theorem Lb.rep {α : Type} {a : α} {n : Nat} : Lb n (List.replicate n a) := by unfold Lb; rw [List.length_replicate]; exact Nat.le_refl _
theorem Lb.range {lo : Int} {n : Nat} : Lb n (rangeI lo n) := by unfold Lb; rw [len_rangeI]; exact Nat.le_refl _
theorem addTb {a b : List PyData} {n m : Nat} (h : Lb n a) (h2 : Lb m b) (hs : n + m ≤ 10000000) : addO (.fr (.tuple a)) (.fr (.tuple b)) = some (.cl (.tuple (a ++ b))) := addT (by unfold Lb at *; rw [sizeLine_eq]; omega)
theorem addLb {o1 o2 : OV} {a b : List PyData} {n m : Nat} (e1 : o1.lsv = some a) (e2 : o2.lsv = some b) (h : Lb n a) (h2 : Lb m b) (hs : n + m ≤ 10000000) : addO o1 o2 = some (.fr (.lst (a ++ b))) := addL e1 e2 (by unfold Lb at *; rw [sizeLine_eq]; omega)
theorem Tl.ovdct : Tl 1 0 (OV.dct []).toD := Tl.edict
theorem sIx_pos {n d : Nat} {k : Int} (h : 0 ≤ k) : HT.sIx n d (some k) = min k.toNat n := by
  show (if k < 0 then _ else _) = _
  rw [if_neg (by omega)]
theorem cutD_from {α : Type} (xs : List α) {k : Int} (h : 0 ≤ k) : cutD xs (some k) none = xs.drop k.toNat := by
  unfold cutD
  rw [sIx_pos h, HT.sIx_none]
  rcases Nat.le_total k.toNat xs.length with a | a
  · rw [Nat.min_eq_left a, List.take_of_length_le (by rw [List.length_drop]; omega)]
  · rw [Nat.min_eq_right a, List.drop_of_length_le (Nat.le_refl _), List.drop_of_length_le a, List.take_nil]
theorem cutD_to {α : Type} (xs : List α) {k : Int} (h : 0 ≤ k) : cutD xs none (some k) = xs.take k.toNat := by
  rw [show k = ((k.toNat : Nat) : Int) by omega]; exact cut_take xs _
end Dt

namespace Dt
open PySem PySem.Spec PyProof.Rows L2

end Dt

namespace Dt
open PySem PySem.Spec PyProof.Rows L2

/-! ### dict(pairs), the keys tuples of ints and texts -/
section
variable {prog : Program} {w : World}
variable {A : Around} {E : Value → Shared → Prop}
end
end Dt

namespace Dt
open PySem PySem.Spec PyProof.Rows L2 SrtO

/-! ### lists in order -/
/-- a strict order of all -/
structure Tot {α : Type} (lt : α → α → Bool) : Prop where
  asym : ∀ x y, lt x y = true → lt y x = false
  tr : ∀ x y z, lt x y = false → lt y z = false → lt x z = false
  tot : ∀ x y, lt x y = false → lt y x = false → x = y
def srt {α : Type} (lt : α → α → Bool) (l : List α) : List α := l.mergeSort fun a b => !lt b a
theorem srt_perm {α : Type} (lt : α → α → Bool) (l : List α) : (srt lt l).Perm l := List.mergeSort_perm l _
theorem srt_sorted {α : Type} {lt : α → α → Bool} (T : Tot lt) (l : List α) : (srt lt l).Pairwise fun a b => lt b a = false := by
  have := List.pairwise_mergeSort (le := fun a b => !lt b a) (fun a b c h1 h2 => by
    simp only [Bool.not_eq_true'] at h1 h2 ⊢
    exact T.tr c b a h2 h1) (fun a b => by
    cases h : lt b a with
    | false => rfl
    | true => rw [T.asym b a h]; rfl) l
  exact this.imp fun h => by simpa using h
theorem sorted_uniq {α : Type} {lt : α → α → Bool} (T : Tot lt) : ∀ {l m : List α}, l.Perm m → l.Pairwise (fun a b => lt b a = false) → m.Pairwise (fun a b => lt b a = false) → l = m
  | [], m, p, _, _ => (List.Perm.nil_eq p)
  | x :: l, [], p, _, _ => absurd p.length_eq (by simp)
  | x :: l, y :: m, p, h1, h2 => by
    have e : x = y := by
      have hx : x ∈ y :: m := p.mem_iff.mp List.mem_cons_self
      have hy : y ∈ x :: l := p.mem_iff.mpr List.mem_cons_self
      rcases List.mem_cons.mp hx with e | hx
      · exact e
      · rcases List.mem_cons.mp hy with e | hy
        · exact e.symm
        · exact T.tot x y ((List.pairwise_cons.mp h2).1 x hx) ((List.pairwise_cons.mp h1).1 y hy)
    subst e
    rw [sorted_uniq T p.cons_inv (List.pairwise_cons.mp h1).2 (List.pairwise_cons.mp h2).2]
theorem srt_eq {α : Type} {lt : α → α → Bool} (T : Tot lt) {l m : List α} (p : m.Perm l) (h : m.Pairwise fun a b => lt b a = false) : m = srt lt l :=
  sorted_uniq T (p.trans (srt_perm lt l).symm) h (srt_sorted T l)
abbrev ltl : List Int → List Int → Bool := HT.lexLt
abbrev lti (a b : Int) : Bool := decide (a < b)
theorem tot_lti : Tot lti := ⟨fun x y h => by simp at h ⊢; omega, fun x y z h1 h2 => by simp at h1 h2 ⊢; omega, fun x y h1 h2 => by simp at h1 h2; omega⟩

/-! ### sorted over tuples of ints, none of them empty -/
section
variable {prog : Program} {w : World} {A : Around} {E : Value → Shared → Prop} {s : Shared}
/-- v is a tuple of the ints ns -/
def IsTI (h : Heap) (v : Value) (ns : List Int) : Prop := ∃ a o its n, v = .ref a ∧ h.get? a = some o ∧ o.cls = .type "tuple" ∧ o.data = .seq its n ∧ IntsAre its.toList ns
theorem IsTI.keeps {h h' : Heap} {v : Value} {ns : List Int} (x : IsTI h v ns) (k : ∀ b o, h.get? b = some o → o.cls = .type "tuple" → h'.get? b = some o) : IsTI h' v ns := by
  obtain ⟨a, o, its, n, e, ho, hc, r⟩ := x
  exact ⟨a, o, its, n, e, k _ _ ho hc, hc, r⟩
end
section
variable {X : Cx}
end
end Dt

namespace Dt
open PySem PySem.Spec PyProof.Rows L2 SrtO

/-! ### sorted over what can be gathered -/
section
variable {prog : Program} {w : World} {A : Around} {E : Value → Shared → Prop} {s : Shared}
theorem collect_tupL {l : Addr} {vs : List Value} {Q : List Value → Shared → Prop} (hl : IsTup s.heap l vs.toArray)
    (h : Q vs { s with heap := (s.heap.push (seqObj "list" #[] 0)).update s.heap.objs.size (Obj.mapSeq (· ++ vs.toArray)) }) (hsz : vs.length ≤ sizeLine) :
    wpAny (model prog w) A (collect (.ref l)) Q E s := by
  obtain ⟨o, ho, hc, n, hd⟩ := id hl
  unfold collect
  refine wpAny_bind (wpAny_runValue (codeAny_builtin entry_proto_collect' ?_))
  show wpAny _ _ (do again (.builtin "list.__iadd__" ⟨[← newList [], .ref l], []⟩)) _ _ s
  refine wpAny_bind (wpAny_newList (wpAny_pure ⟨Code.quiet_builtin _ (by decide +kernel), codeAny_builtin entry_list_iadd' ?_⟩))
  show wpAny _ _ (Builtin.List.listExtendWith (.ref s.heap.objs.size) (.ref l) (.ref s.heap.objs.size)) _ _ { s with heap := s.heap.push (seqObj "list" #[] 0) }
  unfold Builtin.List.listExtendWith
  have ho' : (s.heap.push (seqObj "list" #[] 0)).get? l = some o := Heap.get?_push_of_some _ ho
  refine wpAny_bind (wpAny_typeOf (T := "tuple") ⟨o, ho', hc⟩ ?_)
  have ht : (Value.type "tuple" == Value.type "tuple") = true := by rfl
  rw [if_pos (by rw [ht]; simp)]
  refine wpAny_bind (listItems_at ho' hd ?_)
  refine wpAny_bind (listItems_at (xs := #[]) (n := 0) (Heap.get?_push_size _ rfl) rfl ?_)
  rw [if_neg (by simp)]
  refine wpAny_bind (listUpdate_at (xs := #[]) (n := 0) (Heap.get?_push_size _ rfl) rfl ?_ (Nat.zero_le _) (by show (#[] ++ vs.toArray).size ≤ sizeLine + 1; simp only [Array.size_append, List.size_toArray, List.length_nil]; omega))
  refine wpAny_pure ?_
  show wpAny (model prog w) A (do
      let o ← load s.heap.objs.size
      match o.data with
      | .seq xs _ => pure xs.toList
      | _ => unsupported "internal:collect") Q E { s with heap := (s.heap.push (seqObj "list" #[] 0)).update s.heap.objs.size (Obj.mapSeq (· ++ vs.toArray)) }
  refine wpAny_bind (wpAny_load (get?_update_seq (Heap.get?_push_size _ rfl) _) ?_)
  show wpAny _ _ (pure ((#[] : Array Value) ++ vs.toArray).toList) Q E _
  rw [show ((#[] : Array Value) ++ vs.toArray).toList = vs by simp]
  exact wpAny_pure h
/-- u can be gathered to vs -/
def Gath (prog : Program) (w : World) (A : Around) (s : Shared) (u : Value) (vs : List Value) : Prop := ∀ (Q : List Value → Shared → Prop) (E : Value → Shared → Prop),
  (∀ (h' : Heap) (tk : Nat), (∀ b o, s.heap.get? b = some o → h'.get? b = some o) → Q vs { s with heap := h', toks := tk }) → wpAny (model prog w) A (collect u) Q E s
theorem keptL {h : Heap} {vs : List Value} : ∀ b o, h.get? b = some o → ((h.push (seqObj "list" #[] 0)).update h.objs.size (Obj.mapSeq (· ++ vs.toArray))).get? b = some o := fun b o q => by
  rw [Heap.get?_update_ne _ _ _ _ (Nat.ne_of_lt (Heap.lt_size q))]
  exact Heap.get?_push_of_some _ q
theorem Gath.list {l : Addr} {vs : List Value} (hl : s.heap.IsList l vs.toArray) (hz : vs.length ≤ sizeLine) : Gath prog w A s (.ref l) vs := fun Q E k =>
  collect_list hl (k _ _ keptL) hz
theorem Gath.tup {l : Addr} {vs : List Value} (hl : IsTup s.heap l vs.toArray) (hz : vs.length ≤ sizeLine) : Gath prog w A s (.ref l) vs := fun Q E k =>
  collect_tupL hl (k _ _ keptL) hz
theorem key_nil (a : Addr) : Builtin.«list.sort» ⟨[.ref a], []⟩ = Builtin.«list.sort» ⟨[.ref a], [(Str.ofString "reverse", .bool false)]⟩ := by
  rw [list_sort_rev]
  first | rfl | kernel_rfl
theorem sorted_ordC {u : Value} {vs : List Value} {b : Bool} {kw : List (Str × Value)} {ltv : Value → Value → Bool} {Q : Value → Shared → Prop} (hk : ∀ a, Builtin.«list.sort» ⟨[.ref a], kw⟩ = Builtin.«list.sort» ⟨[.ref a], [(Str.ofString "reverse", .bool b)]⟩)
    (ha1 : argsOk "sorted" ⟨[u], kw⟩) (ha2 : ∀ a, argsOk "list.sort" ⟨[a], kw⟩) (O : Swo ltv) (hcol : Gath prog w A.in1 s u vs) (hz : vs.length ≤ sizeLine)
    (hS : 2 ≤ vs.length → ∀ (h₁ : Heap) (tk : Nat) (a : Addr), h₁.get? a = some (seqObj "list" vs.toArray 0) → (∀ b o, s.heap.get? b = some o → b ≠ a ∧ h₁.get? b = some o) → SortableO prog w A.in1.in1 { s with heap := h₁, toks := tk } a vs ltv)
    (h : ∀ (out : List Value) (h1 h2 : Heap) (tk : Nat) (d : Addr) (e : Nat), Srtd ltv out → Stb ltv out (if b = true then vs.reverse else vs) → (∀ b o, s.heap.get? b = some o → h1.get? b = some o) → (∀ b o, h1.get? b = some o → h2.get? b = some o) → h1.objs.size ≤ d →
      h2.get? d = some (seqObj "list" (if b = true then out.toArray.reverse else out.toArray) e) → Q (.ref d) { s with heap := h2, toks := tk }) :
    wpAny (model prog w) A (call (.builtin "sorted") [u] kw) Q E s := by
  refine call_function_entry_kw kind_sorted plain_sorted entry_sorted ha1 ?_
  unfold Builtin.«sorted»
  refine wpAny_bind (m := checkCount "sorted" 1 1 _) (wpAny_pure ?_)
  refine wpAny_bind (hcol _ _ fun h' tk kp => ?_)
  refine wpAny_bind (wpAny_newList ?_ hz)
  have hoL : (h'.push (seqObj "list" vs.toArray 0)).get? h'.objs.size = some (seqObj "list" vs.toArray 0) := Heap.get?_push_size _ rfl
  have keep : ∀ b o, s.heap.get? b = some o → b ≠ h'.objs.size ∧ (h'.push (seqObj "list" vs.toArray 0)).get? b = some o := fun b o q => by
    refine ⟨Nat.ne_of_lt (Heap.lt_size (kp b o q)), Heap.get?_push_of_some _ (kp b o q)⟩
  show wpAny _ _ _ _ _ { s with heap := h'.push (seqObj "list" vs.toArray 0), toks := tk }
  refine wpAny_bind (wpAny_holding (wpAny_call_entry_kw slot_list_sort ⟨_, hoL, rfl⟩ entry_list_sort ?_ (ha2 _)))
  rw [hk]
  refine SrtR.list_sort_ordR (s := { s with heap := h'.push (seqObj "list" vs.toArray 0), toks := tk }) O hoL hz (fun h2 => hS h2 _ tk _ hoL keep) fun out hs hb => ⟨_, rfl, ?_⟩
  obtain ⟨e', he'⟩ := sortedHeap_at (vs := vs) (out := if b = true then out.toArray.reverse else out.toArray) hoL
  refine wpAny_pure ⟨_, rfl, h out h' _ tk _ e' hs hb kp (fun b u e => ?_) (Nat.le_refl _) he'⟩
  have hb : b < h'.objs.size := Heap.lt_size e
  rw [sortedHeap_old (Nat.ne_of_lt hb) (by rw [size_push']; exact Nat.lt_succ_of_lt hb)]
  exact Heap.get?_push_of_some _ e
end
/-- in order, upwards or downwards -/
def srtB {α : Type} (b : Bool) (lt : α → α → Bool) (l : List α) : List α := if b = true then (srt lt l).reverse else srt lt l
theorem srtB_perm {α : Type} (b : Bool) (lt : α → α → Bool) (l : List α) : (srtB b lt l).Perm l := by
  unfold srtB
  split
  · exact (List.reverse_perm _).trans (srt_perm lt l)
  · exact srt_perm lt l
theorem srtB_eq {α : Type} {b : Bool} {lt : α → α → Bool} (T : Tot lt) {l m : List α} (p : m.Perm l) (h : (if b = true then m.reverse else m).Pairwise fun a b => lt b a = false) : m = srtB b lt l := by
  unfold srtB
  cases b with
  | true =>
    rw [if_pos rfl] at h ⊢
    rw [← srt_eq T (l := l) (m := m.reverse) ((List.reverse_perm _).trans p) h, List.reverse_reverse]
  | false =>
    rw [if_neg (by decide)] at h ⊢
    exact srt_eq T p h
inductive All2 {α β : Type} (R : α → β → Prop) : List α → List β → Prop
  | nil : All2 R [] []
  | cons {a : α} {b : β} {l : List α} {m : List β} : R a b → All2 R l m → All2 R (a :: l) (b :: m)
theorem All2.mapEq {α β : Type} {R : α → β → Prop} {f : α → β} (h : ∀ a b, R a b → f a = b) : ∀ {l : List α} {m : List β}, All2 R l m → l.map f = m
  | _, _, .nil => rfl
  | _, _, .cons r t => by rw [List.map_cons, h _ _ r, All2.mapEq h t]
theorem All2.memL {α β : Type} {R : α → β → Prop} : ∀ {l : List α} {m : List β}, All2 R l m → ∀ a ∈ l, ∃ b ∈ m, R a b
  | _, _, .nil, a, h => by cases h
  | _, _, .cons (b := b) r t, a, h => by
    rcases List.mem_cons.mp h with e | h
    · subst e; exact ⟨b, List.mem_cons_self, r⟩
    · obtain ⟨c, h1, h2⟩ := All2.memL t a h
      exact ⟨c, List.mem_cons_of_mem _ h1, h2⟩
theorem Reps.memL {K : Fg} {F : Hp} {α : Type} {f : α → PyData} : ∀ {xs : List V} {l : List α}, Reps K F xs (l.map f) → ∀ {x : V}, x ∈ xs → ∃ a, a ∈ l ∧ Rep K F x (f a)
  | _, [], .nil, x, h => by cases h
  | _, a :: l, .cons r t, x, h => by
    rcases List.mem_cons.mp h with e | h
    · subst e
      exact ⟨a, List.mem_cons_self, r⟩
    · obtain ⟨b, h1, h2⟩ := Reps.memL t h
      exact ⟨b, List.mem_cons_of_mem _ h1, h2⟩
theorem repsOf {K : Fg} {F : Hp} {α β : Type} {g : β → V} {f : α → PyData} {h : β → α} : ∀ {l : List β}, (∀ v ∈ l, Rep K F (g v) (f (h v))) → Reps K F (l.map g) ((l.map h).map f)
  | [], _ => .nil
  | v :: l, k => .cons (k v List.mem_cons_self) (repsOf fun u hu => k u (List.mem_cons_of_mem _ hu))
section
variable {X : Cx}
/-- what a call of sorted leaves: ints -/
theorem sortedI {pins : List (Addr × Obj)} {s : Shared} {σ : St} {H : Hp} {u : Value} {its : List Value} {ns : List Int} {b : Bool} {kw : List (Str × Value)} {Q : VK} (I : Inv X pins σ H s)
    (hk : ∀ a, Builtin.«list.sort» ⟨[.ref a], kw⟩ = Builtin.«list.sort» ⟨[.ref a], [(Str.ofString "reverse", .bool b)]⟩) (ha1 : argsOk "sorted" ⟨[u], kw⟩) (ha2 : ∀ a, argsOk "list.sort" ⟨[a], kw⟩)
    (hcol : Gath X.prog X.w X.A.in1 s u its) (rv : Vals (ns.map V.int) its) (hz : (ns.map V.int).length ≤ sizeLine)
    (q : ∀ p, H p = none → Q (.ref p) (upd H p (.lst ((srtB b lti ns).map V.int)))) :
    wpAny (model X.prog X.w) X.A (call (.builtin "sorted") [u] kw) (EP X pins σ Q) X.xe s := by
  have hi := rv.ints
  refine sorted_ordC hk ha1 ha2 swo_int hcol (by rw [← rv.length]; exact hz) (fun h2 h₁ tk a' _ _ => ints_sortable hi h2) fun out h0 h' tk d e h1 h2 kp0 kp hd ho => ?_
  obtain ⟨ns', k1, k2, k3⟩ := SrtR.ints_outR hi h1 h2
  have hlen : (ns'.map V.int).length ≤ sizeLine := by
    rw [List.length_map, k2.length_eq]
    rw [List.length_map] at hz
    exact hz
  have e0 : ((if b = true then out.toArray.reverse else out.toArray).toList).toArray = (if b = true then out.toArray.reverse else out.toArray) := by rw [Array.toArray_toList]
  have en : ns' = srtB b lti ns := srtB_eq tot_lti k2 (by
    unfold Ordered at k3
    cases b with
    | true =>
      have k3 : ns'.Pairwise (· ≥ ·) := k3
      show (ns'.reverse).Pairwise _
      rw [List.pairwise_reverse]
      exact k3.imp fun h => decide_eq_false (by omega)
    | false =>
      have k3 : ns'.Pairwise (· ≤ ·) := k3
      exact k3.imp fun h => decide_eq_false (by omega))
  subst en
  exact ⟨.ref d, upd H d (.lst ((srtB b lti ns).map V.int)), (I.kept (t' := tk) kp0).laid (t' := tk) kp hd ⟨hlen, _, e, vals_of_ints k1, by rw [e0]; exact ho⟩, rfl, q _ ((I.kept (t' := tk) kp0).hok.fresh hd)⟩
/-- a kind of thing that can be sorted: how it is told as data, how it lies in a heap -/
structure SKind (prog : Program) (w : World) (A : Around) (α : Type) where
  emb : α → PyData
  lt : α → α → Bool
  tot : Tot lt
  P : Heap → Value → α → Prop
  uniq : ∀ {h v a a'}, P h v a → P h v a' → a = a'
  keep : ∀ {h h' v a}, P h v a → (∀ b o, h.get? b = some o → h'.get? b = some o) → P h' v a
  ok : ∀ {s : Shared} {a : Addr} {vs : List Value} (k : Value → α), 2 ≤ vs.length → (∀ v ∈ vs, P s.heap v (k v)) → (∀ o, s.heap.get? a = some o → o.cls = .type "list") → SortableO prog w A s a vs fun v u => lt (k v) (k u)
theorem sortedG {α : Type} [Inhabited α] {pins : List (Addr × Obj)} {s : Shared} {σ : St} {F H : Hp} {u : Value} {its : List Value} {xs : List V} {l : List α} {b : Bool} {kw : List (Str × Value)} {Q : VK} (I : Inv X pins σ H s)
    (hk : ∀ a, Builtin.«list.sort» ⟨[.ref a], kw⟩ = Builtin.«list.sort» ⟨[.ref a], [(Str.ofString "reverse", .bool b)]⟩) (ha1 : argsOk "sorted" ⟨[u], kw⟩) (ha2 : ∀ a, argsOk "list.sort" ⟨[a], kw⟩)
    (hcol : Gath X.prog X.w X.A.in1 s u its) (rv : Vals xs its) (hz : xs.length ≤ sizeLine) (k : SKind X.prog X.w X.A.in1.in1 α)
    (hM : ∀ {t : Addr} {a : α}, a ∈ l → Rep X.K F (.ref t) (k.emb a) → k.P s.heap (.ref t) a) (hrf : ∀ {x : V} {a : α}, Rep X.K F x (k.emb a) → ∃ t, x = V.ref t)
    (hr : Reps X.K F xs (l.map k.emb)) (q : ∀ ys p, Reps X.K F ys ((srtB b k.lt l).map k.emb) → H p = none → Q (.ref p) (upd H p (.lst ys))) :
    wpAny (model X.prog X.w) X.A (call (.builtin "sorted") [u] kw) (EP X pins σ Q) X.xe s := by
  obtain ⟨e1, e2⟩ := refs_back rv fun x m => by
    obtain ⟨a, _, ha⟩ := Reps.memL hr m
    exact hrf ha
  -- what each of them is
  have hall : ∀ {ys : List V} {m : List α} {vs : List Value}, ys = vs.map backV → (∀ a ∈ m, a ∈ l) → (∀ u ∈ vs, ∃ a, u = Value.ref a) → Reps X.K F ys (m.map k.emb) → All2 (fun v a => k.P s.heap v a ∧ Rep X.K F (backV v) (k.emb a)) vs m := by
    intro ys m vs
    induction vs generalizing ys m with
    | nil =>
      intro e _ _ r
      subst e
      cases m with
      | nil => exact .nil
      | cons a m => cases r
    | cons v vs ih =>
      intro e hm hv r
      subst e
      cases m with
      | nil => cases r
      | cons a m =>
        cases r with
        | cons r1 r2 =>
          obtain ⟨t, rfl⟩ := hv v List.mem_cons_self
          exact .cons ⟨hM (hm a List.mem_cons_self) r1, r1⟩ (ih rfl (fun a h => hm a (List.mem_cons_of_mem _ h)) (fun u h => hv u (List.mem_cons_of_mem _ h)) r2)
  have hA := hall e1 (fun a h => h) e2 hr
  clear hall
  obtain ⟨kf, hkf⟩ : ∃ kf : Value → α, ∀ v a, k.P s.heap v a → kf v = a := by
    classical
    refine ⟨fun v => if h : ∃ a, k.P s.heap v a then h.choose else default, fun v a h => ?_⟩
    have hx : ∃ a, k.P s.heap v a := ⟨a, h⟩
    show (if h : ∃ a, k.P s.heap v a then h.choose else default) = a
    rw [dif_pos hx]
    exact k.uniq hx.choose_spec h
  have hl : its.map kf = l := hA.mapEq fun v a h => hkf v a h.1
  have hP : ∀ v ∈ its, k.P s.heap v (kf v) ∧ Rep X.K F (backV v) (k.emb (kf v)) := fun v hv => by
    obtain ⟨a, _, h⟩ := hA.memL v hv
    rw [hkf _ _ h.1]
    exact h
  have O : Swo fun v u => k.lt (kf v) (kf u) := ⟨fun x y => k.tot.asym _ _, fun x y z h1 h2 => k.tot.tr _ _ _ h2 h1⟩
  refine sorted_ordC hk ha1 ha2 O hcol (by rw [← rv.length]; exact hz) (fun h2 h₁ tk a' hb kk => ?_) fun out h0 h' tk d e h1 h2 kp0 kp hd ho => ?_
  · refine k.ok (s := { s with heap := h₁, toks := tk }) kf h2 (fun v hv => k.keep (hP v hv).1 fun c o e => (kk c o e).2) fun o e => ?_
    have e := e.symm.trans hb
    have e : o = seqObj "list" its.toArray 0 := Option.some.inj e
    subst e
    rfl
  · have hp2 : out.Perm its := by
      refine h2.perm.trans ?_
      cases b with
      | true => exact List.reverse_perm _
      | false => exact List.Perm.refl _
    have h3 : ∀ u ∈ out, ∃ a, u = Value.ref a := fun u hu => e2 u (hp2.mem_iff.mp hu)
    obtain ⟨o2, eo, hpo, h4, h5⟩ : ∃ o2 : List Value, (if b = true then out.toArray.reverse else out.toArray) = o2.toArray ∧ o2.Perm its ∧ (∀ u ∈ o2, ∃ a, u = Value.ref a) ∧ (if b = true then o2.reverse else o2) = out := by
      cases b with
      | true => exact ⟨out.reverse, by simp, (List.reverse_perm _).trans hp2, fun u hu => h3 u (List.mem_reverse.mp hu), by simp⟩
      | false => exact ⟨out, rfl, hp2, h3, rfl⟩
    rw [eo] at ho
    have hperm : (o2.map backV).Perm xs := by rw [e1]; exact hpo.map backV
    refine ⟨.ref d, upd H d (.lst (o2.map backV)), (I.kept (t' := tk) kp0).laid (t' := tk) kp hd ⟨?_, o2, e, vals_back h4, ho⟩, rfl, q _ _ ?_ ((I.kept (t' := tk) kp0).hok.fresh hd)⟩
    · rw [hperm.length_eq]
      exact hz
    · have e7 : srtB b k.lt l = o2.map kf := by
        refine (srtB_eq k.tot (by rw [← hl]; exact hpo.map kf) ?_).symm
        have e6 : (if b = true then (o2.map kf).reverse else (o2.map kf)) = out.map kf := by
          rw [← h5]
          cases b with
          | true => simp
          | false => rfl
        rw [e6, List.pairwise_map]
        exact h1
      rw [e7]
      exact repsOf fun v hv => (hP v (hpo.mem_iff.mp hv)).2
end
/-! ### data that are alike -/
mutual
/-- tuples and atoms -/
inductive RdT (h : Heap) : Value → PyData → Prop
  | int (i : Int) (t : Tok) : RdT h (.int i t) (.int i)
  | str (x : Str) (t : Tok) : RdT h (.str x t) (.str x)
  | tuple {a : Addr} {o : Obj} {vs : Array Value} {n : Nat} {xs : List PyData} : h.get? a = some o → o.cls = .type "tuple" → o.data = .seq vs n → RdTs h vs.toList xs → RdT h (.ref a) (.tuple xs)
inductive RdTs (h : Heap) : List Value → List PyData → Prop
  | nil : RdTs h [] []
  | cons {v : Value} {d : PyData} {vs : List Value} {ds : List PyData} : RdT h v d → RdTs h vs ds → RdTs h (v :: vs) (d :: ds)
end
mutual
theorem RdT.keeps {h h' : Heap} (k : ∀ b o, h.get? b = some o → o.cls = .type "tuple" → h'.get? b = some o) : ∀ {v : Value} {d : PyData}, RdT h v d → RdT h' v d
  | _, _, .int i t => .int i t
  | _, _, .str x t => .str x t
  | _, _, .tuple h1 h2 h3 h4 => .tuple (k _ _ h1 h2) h2 h3 (RdTs.keeps k h4)
theorem RdTs.keeps {h h' : Heap} (k : ∀ b o, h.get? b = some o → o.cls = .type "tuple" → h'.get? b = some o) : ∀ {v : List Value} {d : List PyData}, RdTs h v d → RdTs h' v d
  | _, _, .nil => .nil
  | _, _, .cons r t => .cons (RdT.keeps k r) (RdTs.keeps k t)
end
mutual
theorem RdT.reads {h : Heap} : ∀ {v : Value} {d : PyData}, RdT h v d → Reads h v d []
  | _, _, .int i t => .int i t
  | _, _, .str x t => .str x t
  | _, _, .tuple h1 h2 h3 h4 => .tuple h1 h2 h3 (RdTs.reads h4)
theorem RdTs.reads {h : Heap} : ∀ {v : List Value} {d : List PyData}, RdTs h v d → ReadsAll h v d []
  | _, _, .nil => .nil
  | _, _, .cons r t => .cons (as := []) (bs := []) (RdT.reads r) (RdTs.reads t)
end
mutual
def tupD : PyData → Bool
  | .int _ => true
  | .str _ => true
  | .tuple xs => tupDs xs
  | _ => false
def tupDs : List PyData → Bool
  | [] => true
  | x :: xs => tupD x && tupDs xs
end
section
variable {X : Cx}
mutual
theorem Rep.rdT {pins : List (Addr × Obj)} {s : Shared} {σ : St} {F H : Hp} (I : Inv X pins σ H s) (le : Same F H) : ∀ {v : V} {d : PyData}, Rep X.K F v d → ∀ {u : Value}, RelV v u → tupD d = true → RdT s.heap u d
  | _, _, .none, u, r, hs => by cases hs
  | _, _, .bool b, u, r, hs => by cases hs
  | _, _, .int i, u, r, _ => by
    obtain ⟨t, r⟩ : ∃ t, u = Value.int i t := r
    subst r
    exact .int i t
  | _, _, .str x, u, r, _ => by
    obtain ⟨t, r⟩ : ∃ t, u = Value.str x t := r
    subst r
    exact .str x t
  | _, _, .lst _ _, u, r, hs => by cases hs
  | _, _, .tup (a := a) (vs := vs) (ds := ds) h rs, u, r, hs => by
    have r : u = Value.ref a := r
    subst r
    obtain ⟨o, its, n, e1, e2, e3, rv⟩ := obj_tup I (Same.sqT le h.t)
    exact .tuple e1 e2 e3 (by simpa using Reps.rdT I le rs rv hs)
  | _, _, .dct _ _, u, r, hs => by cases hs
theorem Reps.rdT {pins : List (Addr × Obj)} {s : Shared} {σ : St} {F H : Hp} (I : Inv X pins σ H s) (le : Same F H) : ∀ {vs : List V} {ds : List PyData}, Reps X.K F vs ds → ∀ {us : List Value}, Vals vs us → tupDs ds = true → RdTs s.heap us ds
  | _, _, .nil, us, r, _ => by
    cases r
    exact .nil
  | _, _, .cons (d := d) (ds := ds) h rs, us, r, hs => by
    cases r with
    | cons r1 r2 =>
      have hs' : tupD d = true ∧ tupDs ds = true := Bool.and_eq_true_iff.mp hs
      exact .cons (Rep.rdT I le h r1 hs'.1) (Reps.rdT I le rs r2 hs'.2)
end
end
open PySem.W
/-! ### tuples that may be empty, sorted -/
section
variable {prog : Program} {w : World} {A : Around} {s : Shared} {E : Value → Shared → Prop}
open PySem.SeqAt in
theorem call_tup_lt {Q : Value → Shared → Prop} {l b : Addr} {items items2 : Array Value} {e r : Nat → Bool} (hl : s.heap.IsTuple l items) (hb : s.heap.IsTuple b items2)
    (he : ∀ j (h1 : j < items.size) (h2 : j < items2.size), EqAt A.in1 s items[j] items2[j] (e j)) (hr : ∀ j (h1 : j < items.size) (h2 : j < items2.size), e j = false → RcLt A.in1 s items[j] items2[j] (r j))
    (h : Q (.bool (firstLt e r (decide (items.size < items2.size)) (List.range (min items.size items2.size)))) s) : wpAny (model prog w) A (call (.builtin "tuple.__lt__") [.ref l, .ref b]) Q E s := by
  rcases id hl with ⟨⟨c1, dd, dt1, sl⟩, ho, hc, n, hd⟩
  rcases id hb with ⟨⟨c2, dd2, dt2, sl2⟩, ho2, hc2, n2, hd2⟩
  simp only at hc hd hc2 hd2; subst hc hd hc2 hd2
  exact call_meets PySem.F.slot_tuple_lt ⟨_, ho, rfl⟩ PySem.F.entry_tuple_lt (PySem.F.args_tuple_lt_2 _ _) (tuple_ltAt l b items items2 n n2 dd dd2 sl sl2 e r) ⟨ho, ho2, he, hr, h⟩
open PySem.SeqAt in
theorem oneLt_tup {f : Bool} {xs ys : List PyData} {a b : Value} {as bs : List Addr} {Q : Bool → Shared → Prop} (ra : Reads s.heap a (.tuple xs) as) (rb : Reads s.heap b (.tuple ys) bs) (h : alike (.tuple xs) (.tuple ys) = true) (hu : A.units + min (PyData.tuple xs).depth (PyData.tuple ys).depth < cLine)
    (hq : Q (dataLt (.tuple xs) (.tuple ys)) s) : wpAny (model prog w) A (oneLt' f a b) Q E s := by
  cases f with
  | false => exact oneLt_alike (fun z => absurd z Bool.false_ne_true) ra rb h (fun z => nomatch z) hu hq
  | true =>
    have hal : alikeAll xs ys = true := by simpa [alike] using h
    cases ra with
    | @tuple l o vs n _ as1 h1 h2 h3 h4 =>
      cases rb with
      | @tuple l2 o2 vs2 n2 _ bs1 k1 k2 k3 k4 =>
        have m1 : vs.size = xs.length := by simpa using ReadsAll.length _ _ _ h4
        have m2 : vs2.size = ys.length := by simpa using ReadsAll.length _ _ _ k4
        rw [dataLt_tuple, ← firstLt_toks xs ys hal, ← m1, ← m2] at hq
        rw [oneLt'_eq]
        simp only [if_true]
        refine wpAny_bind (wpAny_cRoomFor (room_here hu) (wpAny_bind (wpAny_callSpecialIfBound?_slot (T := "tuple") ⟨_, h1, h2⟩ PySem.F.slot_tuple_lt
          (call_tup_lt (e := pairEq xs ys) (r := fun j => dataLt (xs.getD j .none) (ys.getD j .none)) ⟨_, h1, h2, _, h3⟩ ⟨_, k1, k2, _, k3⟩ (fun j j1 j2 => ?_) (fun j j1 j2 hj => ?_) (wpAny_truthy_bool hq)))))
        · have q := eqAt_alikeAll xs ys A.in1 s vs.toList vs2.toList _ _ h4 k4 hal (room_in hu) j (by simpa using j1) (by simpa using j2)
          simpa using q
        · have q := rcLt_alikeAll xs ys A.in1 s vs.toList vs2.toList _ _ h4 k4 hal (room_in hu) j (by simpa using j1) (by simpa using j2) hj
          simpa using q
/-- what stands first in a tuple -/
def fstT (h : Heap) (v : Value) (o : Option Value) : Prop := ∃ (a : Addr) (ob : Obj) (xs : Array Value) (n : Nat), v = .ref a ∧ h.get? a = some ob ∧ ob.cls = .type "tuple" ∧ ob.data = .seq xs n ∧ xs[0]? = o
theorem firsts_run : ∀ (vs : List Value) (os : List (Option Value)) {Q : List (Option Value) → Shared → Prop}, EachIs (fstT s.heap) vs os → Q os s → wpAny (model prog w) A (vs.mapM firstOfTuple') Q E s
  | [], _, Q, .nil, h => by rw [List.mapM_nil]; exact wpAny_pure h
  | v :: vs, _, Q, .cons (b := o) hx t, h => by
    obtain ⟨a, ob, xs, n, rfl, ho, hc, hd, hf⟩ := hx
    rw [List.mapM_cons, kas_first_eq]
    refine wpAny_bind (wpAny_bind (Looks.here (show Looks (model prog w) s.heap (typeOf (.ref a)) ob.cls from (Looks.ld ho).andThen .now) ?_))
    rw [hc, if_neg (by first | decide | simp)]
    refine wpAny_bind (listItems_at ho hd (wpAny_pure ?_))
    rw [hf]
    exact wpAny_bind (firsts_run vs _ (Q := fun bs s' => wpAny (model prog w) A (pure (o :: bs)) Q E s') t (wpAny_pure h))
theorem types_run {T : Value} (hT2 : (T == T) = true) : ∀ (vs : List Value) {Q : List Value → Shared → Prop}, (∀ v ∈ vs, Looks (model prog w) s.heap (typeOf v) T) → Q (vs.map fun _ => T) s → wpAny (model prog w) A (vs.mapM typeOf) Q E s
  | [], Q, _, h => by rw [List.mapM_nil]; exact wpAny_pure h
  | v :: vs, Q, hT, h => by
    rw [List.mapM_cons]
    refine wpAny_bind ((hT v List.mem_cons_self).here ?_)
    exact wpAny_bind (types_run hT2 vs (Q := fun bs s' => wpAny (model prog w) A (pure (T :: bs)) Q E s') (fun u hu => hT u (List.mem_cons_of_mem _ hu)) (wpAny_pure h))
/-- the kind of keys: some tuple is empty -/
theorem kind_run {vs : List Value} {os : List (Option Value)} {Q : SortKind → Shared → Prop} (t : EachIs (fstT s.heap) vs os) (h2 : 2 ≤ vs.length) (hsome : ¬ (os.all (·.isSome) = true)) (h : Q (if (os[0]?.bind id).isSome = true then general' else oneType') s) : wpAny (model prog w) A (keyKind' vs.toArray) Q E s := by
  rw [keyKind'_eq, List.mapM_toArray, map_eq_pure_bind]
  refine wpAny_bind (wpAny_bind (firsts_run vs os t (wpAny_pure ?_)))
  rw [if_neg (by simpa using hsome)]
  by_cases hz : (os[0]?.bind id).isSome = true
  · rw [if_pos hz] at h
    rw [if_pos (by simpa using hz)]
    exact wpAny_pure h
  · rw [if_neg hz] at h
    rw [if_neg (by simpa using hz)]
    rw [oneTypeOnly'_eq, List.mapM_toArray, map_eq_pure_bind]
    have hT : ∀ v ∈ vs, Looks (model prog w) s.heap (typeOf v) (Value.type "tuple") := fun v hv => by
      obtain ⟨o, _, a, ob, xs, n, rfl, ho, hc, _⟩ := t.left v hv
      exact hc ▸ (Looks.ld ho).andThen .now
    refine wpAny_bind (wpAny_bind (wpAny_bind (types_run (T := .type "tuple") (beq_self_eq_true _) vs hT (wpAny_pure ?_))))
    have hall : ((List.map (fun _ => Value.type "tuple") vs).toArray.all fun x => x == Value.type "tuple") = true := by
      simp only [List.all_toArray, List.all_map, List.all_eq_true]
      intro _ _
      rfl
    have h0 : (List.map (fun _ => Value.type "tuple") vs).toArray[0]? = some (Value.type "tuple") := by
      cases vs with
      | nil => simp at h2
      | cons => simp
    rw [h0]
    simp only [hall, if_true]
    refine wpAny_pure (wpAny_pure ?_)
    exact h
theorem fst_of : ∀ {vs : List Value} {ds : List PyData}, EachIs (fun v d => ∃ as, Reads s.heap v d as) vs ds → (∀ d, d ∈ ds → ∃ xs, d = .tuple xs) → ∃ os, EachIs (fstT s.heap) vs os ∧ (os.all (·.isSome) = true → ∀ d, d ∈ ds → ∃ x r, d = .tuple (x :: r))
  | _, _, .nil, _ => ⟨[], .nil, fun _ d hd => by cases hd⟩
  | _, _, .cons (b := d) ⟨as, r⟩ t, ht => by
    obtain ⟨os, h1, h2⟩ := fst_of t fun d hd => ht d (List.mem_cons_of_mem _ hd)
    obtain ⟨xs, rfl⟩ := ht d List.mem_cons_self
    cases r with
    | @tuple a o vs n _ _ ho hc hd hr =>
      refine ⟨vs[0]? :: os, .cons ⟨a, o, vs, n, rfl, ho, hc, hd, rfl⟩ h1, fun hall d hd => ?_⟩
      rw [List.all_cons, Bool.and_eq_true] at hall
      rcases List.mem_cons.mp hd with rfl | hd
      · cases xs with
        | cons x r => exact ⟨x, r, rfl⟩
        | nil =>
          have e : vs.toList = [] := by
            cases q : vs.toList with
            | nil => rfl
            | cons v l => rw [q] at hr; cases hr
          have e2 : vs = #[] := by simpa using e
          rw [e2] at hall
          exact absurd hall.1 (by simp)
      · exact h2 hall.2 d hd
theorem SortsAt.tups {vs : List Value} {ds : List PyData} (e : EachIs (fun v d => ∃ as, Reads s.heap v d as) vs ds) (hal : AllAlike ds) (ht : ∀ d, d ∈ ds → ∃ xs, d = .tuple xs) (hu : ∀ d, d ∈ ds → A.units + d.depth < cLine) : SortsAt prog w A s (dataKind s.heap ds) vs := by
  obtain ⟨os, t, hos⟩ := fst_of e ht
  by_cases hsome : os.all (·.isSome) = true
  · exact SortsAt.data e hal (.inl (hos hsome)) hu
  · have lt : ∀ {f : Bool} (E : Value → Shared → Prop) (x y : Value) (a b : (dataKind s.heap ds).α) {Q : Bool → Shared → Prop}, (dataKind s.heap ds).keyOf x = some a → (dataKind s.heap ds).keyOf y = some b → Q ((dataKind s.heap ds).blt a b) s → wpAny (model prog w) A (oneLt' f x y) Q E s := by
      intro f E x y a b Q ha hb hq
      obtain ⟨d, as, hd, ra, rfl⟩ := dataKind_inv ha
      obtain ⟨d', bs, hd', rb, rfl⟩ := dataKind_inv hb
      obtain ⟨xs, rfl⟩ := ht d hd
      obtain ⟨ys, rfl⟩ := ht d' hd'
      exact oneLt_tup ra rb (hal _ hd _ hd') (Nat.lt_of_le_of_lt (Nat.add_le_add_left (Nat.min_le_left _ _) _) (hu _ hd)) hq
    refine ⟨fun v hv => ?_, ?_⟩
    · obtain ⟨d, hd, as, r⟩ := e.left v hv
      exact ⟨_, dataKind_some hal hd r⟩
    · refine ⟨if (os[0]?.bind id).isSome = true then general' else oneType', fun E x y a b Q ha hb hq => ?_, fun h2 E Q hq => kind_run t h2 hsome hq⟩
      split
      · exact lt (f := false) E x y a b ha hb hq
      · rw [keyLt'_oneType]
        exact lt (f := true) E x y a b ha hb hq
end
/-- what can be sorted, by its data -/
structure DKind (α : Type) where
  emb : α → PyData
  lt : α → α → Bool
  tot : Tot lt
  hlt : ∀ a b, dataLt (emb a) (emb b) = lt a b
  ok : α → Prop
  hal : ∀ a b, alike (emb a) (emb b) = true
  htd : ∀ a, tupD (emb a) = true
  dep : ∀ a, (emb a).depth ≤ 50
  tup : ∀ a, ∃ xs, emb a = .tuple xs
theorem DKind.inj {α : Type} (k : DKind α) {a b : α} (e : k.emb a = k.emb b) : a = b := by
  have h1 : k.lt a b = false := by rw [← k.hlt, e]; exact PyProof.Rows.lex_irrefl _
  have h2 : k.lt b a = false := by rw [← k.hlt, e]; exact PyProof.Rows.lex_irrefl _
  exact k.tot.tot _ _ h1 h2
def DKind.kind {α : Type} (k : DKind α) {prog : Program} {w : World} {A : Around} (hu : A.units + 50 < cLine) : SKind prog w A α where
  emb := k.emb
  lt := k.lt
  tot := k.tot
  P h v a := k.ok a ∧ RdT h v (k.emb a)
  uniq := by
    rintro h v a a' ⟨_, h1⟩ ⟨_, h2⟩
    exact k.inj (alike_unique _ _ _ _ _ (k.hal a a') h1.reads h2.reads)
  keep := fun h kk => ⟨h.1, h.2.keeps fun b o e _ => kk b o e⟩
  ok := fun {s a vs} kf h2 hp ha => fun h' keep => by
    have hp' : ∀ v ∈ vs, RdT h' v (k.emb (kf v)) := fun v hv => (hp v hv).2.keeps fun b o e c => keep b o (fun z => by
      subst z
      rw [ha o e] at c
      exact absurd (Value.type.inj c) (by decide)) e
    have e : EachIs (fun v d => ∃ as, Reads h' v d as) vs (vs.map fun v => k.emb (kf v)) := by
      clear ha h2 hp
      induction vs with
      | nil => exact .nil
      | cons v vs ih => exact .cons ⟨_, (hp' v List.mem_cons_self).reads⟩ (ih fun u hu => hp' u (List.mem_cons_of_mem _ hu))
    have hal : AllAlike (vs.map fun v => k.emb (kf v)) := fun d hd d' hd' => by
      obtain ⟨v, _, rfl⟩ := List.mem_map.mp hd
      obtain ⟨v', _, rfl⟩ := List.mem_map.mp hd'
      exact k.hal _ _
    have S := SortsAt.tups (prog := prog) (w := w) (A := A) (s := { s with heap := h' }) e hal (fun d hd => by
      obtain ⟨v, _, rfl⟩ := List.mem_map.mp hd
      exact k.tup _) fun d hd => by
      obtain ⟨v, hv, rfl⟩ := List.mem_map.mp hd
      have := k.dep (kf v)
      omega
    obtain ⟨kd, hlt, hkind⟩ := S.kind
    refine ⟨kd, fun Q E hq => hkind h2 E hq, fun p q hm hm' => ?_⟩
    have hm : p.1 ∈ vs := hm
    have hm' : q.1 ∈ vs := hm'
    refine hlt _ p.1 q.1 (keyToks (k.emb (kf p.1))) (keyToks (k.emb (kf q.1))) (dataKind_some hal (List.mem_map.mpr ⟨_, hm, rfl⟩) (hp' _ hm).reads) (dataKind_some hal (List.mem_map.mpr ⟨_, hm', rfl⟩) (hp' _ hm').reads) ⟨rfl, ?_⟩
    exact k.hlt _ _
end Dt

namespace Dt
open PySem PySem.Spec PyProof.Rows L2 SrtO PySem.W

/-! ### kinds of things that can be sorted -/
abbrev tI (ns : List Int) : PyData := .tuple (ns.map .int)
/-- what sorted gives -/
inductive SortsTo (b : Bool) : List PyData → List PyData → Prop
  | nums (ns : List Int) : SortsTo b (ns.map .int) ((srtB b lti ns).map .int)
  | gen {α : Type} [Inhabited α] (k : DKind α) (l : List α) (h : ∀ a ∈ l, k.ok a) : SortsTo b (l.map k.emb) ((srtB b k.lt l).map k.emb)
theorem reps_ints {K : Fg} {F : Hp} : ∀ {xs : List V} {ns : List Int}, Reps K F xs (ns.map .int) → xs = ns.map V.int
  | _, [], .nil => rfl
  | _, n :: ns, .cons r t => by
    cases r
    rw [List.map_cons, reps_ints t]
/-- sorted(x), x a list or a tuple -/
def rSort (K : Fg) (b : Bool) : List V → Hp → VK → Prop := fun vs H Q => ∃ (a : Addr) (xs : List V) (F : Hp) (ds ds' : List PyData), vs = [V.ref a] ∧ (SqL K H a xs ∨ SqT K H a xs) ∧ Same F H ∧ Reps K F xs ds ∧ SortsTo b ds ds' ∧ ∀ ys p, Reps K F ys ds' → H p = none → Q (.ref p) (upd H p (.lst ys))
section
variable {X : Cx}
theorem sortedR {pins : List (Addr × Obj)} {s : Shared} {σ : St} {F H : Hp} {u : Value} {its : List Value} {xs : List V} {ds ds' : List PyData} {b : Bool} {kw : List (Str × Value)} {Q : VK} (hu : X.A.units + 60 < cLine) (I : Inv X pins σ H s)
    (hk : ∀ a, Builtin.«list.sort» ⟨[.ref a], kw⟩ = Builtin.«list.sort» ⟨[.ref a], [(Str.ofString "reverse", .bool b)]⟩) (ha1 : argsOk "sorted" ⟨[u], kw⟩) (ha2 : ∀ a, argsOk "list.sort" ⟨[a], kw⟩)
    (hcol : Gath X.prog X.w X.A.in1 s u its) (rv : Vals xs its) (hz : xs.length ≤ sizeLine) (le : Same F H) (hr : Reps X.K F xs ds) (st : SortsTo b ds ds') (q : ∀ ys p, Reps X.K F ys ds' → H p = none → Q (.ref p) (upd H p (.lst ys))) :
    wpAny (model X.prog X.w) X.A (call (.builtin "sorted") [u] kw) (EP X pins σ Q) X.xe s := by
  cases st with
  | nums ns =>
    have e := reps_ints hr
    subst e
    exact sortedI I hk ha1 ha2 hcol rv hz fun p hp => q _ p (by
      generalize srtB b lti ns = l
      clear hr rv hz q
      induction l with
      | nil => exact .nil
      | cons a l ih => exact .cons (.int a) ih) hp
  | gen k l hl =>
    refine sortedG I hk ha1 ha2 hcol rv hz (k.kind (by show X.A.units + 1 + 1 + 50 < cLine; omega)) (fun {t a} ha r => ⟨hl a ha, Rep.rdT I le r rfl (k.htd a)⟩) (fun {x a} r => ?_) hr q
    obtain ⟨ys, e⟩ := k.tup a
    have r : Rep X.K F x (k.emb a) := r
    rw [e] at r
    cases r
    exact ⟨_, rfl⟩
theorem cr_sortA (hu : X.A.units + 60 < cLine) : CallR X (.builtin "sorted") (rSort X.K false) := by
  intro pins s σ H vs us Q I r h
  obtain ⟨a, xs, F, ds, ds', rfl, hs, le, hr, st, q⟩ := h
  obtain ⟨u, rfl, ru⟩ := vals1 r
  obtain rfl : u = Value.ref a := ru
  rcases hs with hs | hs
  · obtain ⟨its, rv, hl, hz⟩ := I.list hs
    exact sortedR (kw := []) hu I key_nil (args_sorted1 _) (args_list_sort) (.list hl.isList (by rw [← rv.length]; exact hz)) rv hz le hr st q
  · obtain ⟨its, rv, hl, hz⟩ := I.tuple hs
    exact sortedR (kw := []) hu I key_nil (args_sorted1 _) (args_list_sort) (.tup hl (by rw [← rv.length]; exact hz)) rv hz le hr st q
end
/-! ### as data -/
/-- a call's values: what R lets be -/
def OpR' (K : Fg) (r : List V → Hp → VK → Prop) (R : Env → List Res → Res → Prop) : Prop :=
  ∀ (pv : Pins) (F H : Hp) (σ : St) (ρ : Env) (fps : Fps) (xs : List V) (rs : List Res) (res : Res) (tf : AS) (Q : VK), Sta K pv F H σ ρ fps → RepRs K F H σ (own ρ fps) xs rs tf →
    R ρ rs res → (∀ v F' H' fpr, Grow F H tf F' H' fpr → RepR K F' H' σ (own ρ fps) v res fpr → Q v H') → r xs H Q
def gNR (R : Env → List Res → Res → Prop) (ga : DA) : DE := fun ρ Q => ga ρ fun q rs ρ2 => ∃ res, R ρ2 rs res ∧ Q q res ρ2
theorem OpR'.lift {K : Fg} {r : List V → Hp → VK → Prop} {R : Env → List Res → Res → Prop} (h : OpR' K r R) {pv : Pins} {ga : DA} {σ : St} {H : Hp} {Q : VK} (w : Dt.lift K pv (gNR R ga) σ H Q) : liftA K pv ga σ H fun vs H1 => r vs H1 Q := by
  obtain ⟨ρ, F, fps, Q0, S, ex, g, k⟩ := w
  refine ⟨ρ, F, fps, _, S, ex, g, fun q rs ρ' vs H' F' fps' tf ⟨res, e, q0⟩ S' s er kq => ?_⟩
  refine h pv F' H' σ ρ' fps' vs rs res tf Q S' er e fun v F2 H2 fpr G e2 => ?_
  have dt : Dsj tf (own ρ' fps') := fun a z p => (er.out a z).2.2 p
  exact k q res ρ' v H2 F2 fps' fpr q0 (G.sta S' dt) (G.step s) e2 fun z => by
    obtain ⟨a1, a2, a3⟩ := kq z
    exact ⟨a1.trans (.of G.hh), a2, a3⟩
def srtR (b : Bool) (ρ : Env) (rs : List Res) (res : Res) : Prop := ∃ r p ds, rs = [r] ∧ r.seq ρ = some p ∧ SortsTo b p.2 ds ∧ res = .fr (.lst ds)
theorem srt_ok (K : Fg) (b : Bool) : OpR' K (rSort K b) (srtR b) := by
  intro pv F H σ ρ fps xs rs res tf Q S R e k
  obtain ⟨r, p, ds, rfl, hs, st, rfl⟩ := e
  obtain ⟨v, f, rfl, R1, _⟩ := R.one
  obtain ⟨bb, ps⟩ := p
  cases bb with
  | true =>
    obtain ⟨a, vs, rfl, h1, h2⟩ := R1.seqL S hs
    exact ⟨a, vs, F, ps, ds, rfl, .inl h1, S.le, h2, st, fun ys l hy hl => k _ _ _ _ (Grow.ownedT S.le hl) (RepR.newL S hl hy)⟩
  | false =>
    obtain ⟨a, vs, rfl, h1, h2⟩ := R1.seqT S hs
    exact ⟨a, vs, F, ps, ds, rfl, .inr (Same.sqT S.le h1), S.le, h2, st, fun ys l hy hl => k _ _ _ _ (Grow.ownedT S.le hl) (RepR.newL S hl hy)⟩
section
variable {X : Cx} {pv : Pins} {pos : Pos} {es : List Expr} {ga : DA}
theorem dv_sorted {x : Str} {p : Pos} {e : Expr} (hu : X.A.units + 60 < cLine) (hg : Gl X x) (hm : X.mg x = none) (hv : bootBuiltins x = some (.builtin "sorted")) (ha : DAv X pv [e] ga)
    (hn : x ≠ "__name__" := by decide) (hdb : (x == ("__debug__" : Str)) = false := by decide)
    (he : starEach [e] X.env = (false, eval e X.env) :: starEach [] X.env := by rfl) (hpl : (backTo pos (starEach [] X.env)).any (·.1) = false := by rfl) : DEv X pv (.Call (.Name x p) [e] [] pos) (gNR (srtR false) ga) :=
  PE.to (pe_callB (cr_sortA hu) hg hm hv ha hn hdb he hpl) fun _ _ _ w => (srt_ok X.K false).lift w
end
end Dt

namespace Dt
open PySem PySem.Spec PyProof.Rows L2

/-! ### l.pop(i) -/
theorem Reps.eraseIdx {K : Fg} {F : Hp} : ∀ {vs : List V} {ds : List PyData} (k : Nat), Reps K F vs ds → Reps K F (vs.eraseIdx k) (ds.eraseIdx k)
  | _, _, _, .nil => .nil
  | _, _, 0, .cons _ t => t
  | _, _, k + 1, .cons r t => .cons r (Reps.eraseIdx k t)
/-! ### methods of texts -/
def gTx (R : Str → List PyData → Res → Prop) (g : DE) (ga : DA) : DE := fun ρ Q => g ρ fun q1 r ρ1 => ∃ a, r = .cl (.str a) ∧ ga ρ1 fun q2 rs ρ2 => ok (clns ρ2 rs) fun es => ∃ res, R a es res ∧ Q (q1 && q2) res ρ2
section
variable {X : Cx} {pv : Pins} {pos apos cpos : Pos} {o e : Expr} {es : List Expr} {g : DE} {ga : DA} {name : Str} {mid : String} {rm : V → List V → Hp → VK → Prop} {R : Str → List PyData → Res → Prop}
theorem RepR.strI {K : Fg} {F H : Hp} {σ : St} {ow : AS} {v : V} {x : Str} {f : AS} (h : RepR K F H σ ow v (.cl (.str x)) f) : v = .str x := by
  obtain ⟨h, _⟩ := h
  cases h
  rfl
end
/-! ### list(range(..)), tuple(range(..)) -/
def rgRes (tup : Bool) (a b : Int) : Res := if tup = true then .cl (.tuple (rangeD a (b - a).toNat)) else .fr (.lst (rangeD a (b - a).toNat))
def gRgV1 (tup : Bool) (g : DE) : DE := fun ρ Q => g ρ fun q r ρ1 => ok (asI r) fun n => RgOk 0 n ∧ Q q (rgRes tup 0 n) ρ1
def gRgV2 (tup : Bool) (g1 g2 : DE) : DE := fun ρ Q => g1 ρ fun q1 r1 ρ1 => ok (asI r1) fun i => g2 ρ1 fun q2 r2 ρ2 => ok (asI r2) fun j => RgOk i j ∧ Q (q1 && q2) (rgRes tup i j) ρ2
section
variable {X : Cx} {pv : Pins} {pos : Pos} {e e2 : Expr} {g g2 : DE}
variable {p p2 pos2 : Pos}
end
/-! ### any, all of a list of truth values -/
def boolsOf : List PyData → Option (List Bool)
  | [] => some []
  | .bool b :: r => (boolsOf r).map fun bs => b :: bs
  | _ => none
def boolsF (f : List Bool → Bool) (ρ : Env) (rs : List Res) : Option Res := match rs with
  | [r] => match r.seq ρ with
    | some (true, ds) => (boolsOf ds).map fun bs => .cl (.bool (f bs))
    | _ => none
  | _ => none
theorem boolsOf_rep {K : Fg} {F : Hp} : ∀ {vs : List V} {ds : List PyData} {bs : List Bool}, Reps K F vs ds → boolsOf ds = some bs → vs = bs.map V.bl
  | _, [], bs, .nil, e => by
    have e : some [] = some bs := e
    cases e
    rfl
  | _, d :: ds, bs, .cons r t, e => by
    cases r with
    | bool b =>
      have e : (boolsOf ds).map (fun bs => b :: bs) = some bs := e
      cases h : boolsOf ds with
      | none => rw [h] at e; cases e
      | some cs =>
        rw [h] at e
        cases e
        rw [boolsOf_rep t h]
        rfl
    | none => cases e
    | int _ => cases e
    | str _ => cases e
    | tup _ _ => cases e
    | lst _ _ => cases e
    | dct _ _ => cases e
theorem bools_ok (K : Fg) (f : List Bool → Bool) : OpN K (fun vs H Q => ∃ (a : Addr) (bs : List Bool), vs = [V.ref a] ∧ SqL K H a (bs.map V.bl) ∧ Q (.bl (f bs)) H) (boolsF f) := by
  intro pv F H σ ρ fps xs rs res tf Q S R e k
  unfold boolsF at e
  split at e
  · rename_i r
    obtain ⟨v, fp, rfl, R1, _⟩ := R.one
    split at e
    · rename_i ds hs
      cases hb : boolsOf ds with
      | none => rw [hb] at e; cases e
      | some bs =>
        rw [hb] at e
        cases e
        obtain ⟨a, vs, rfl, h1, h2⟩ := R1.seqL S hs
        have ev := boolsOf_rep h2 hb
        subst ev
        exact ⟨a, bs, rfl, h1, k _ F H noA (Grow.refl S.le) ⟨.bool _, fun _ z => z⟩⟩
    · cases e
  · cases e
theorem all_ok (K : Fg) : OpN K (rAll K) (boolsF fun bs => bs.all id) := bools_ok K fun bs => bs.all id
end Dt

namespace Dt
open PySem PySem.Spec PyProof.Rows L2

/-! ### sorted(dict(e)), e a list of pairs (tuple of ints, anything) -/
/-- each once, in the order of the first ones -/
def stF {α : Type} [DecidableEq α] (a : List α) (x : α) : List α := if x ∈ a then a else a ++ [x]
def ddF {α : Type} [DecidableEq α] (l : List α) : List α := l.foldl stF []
theorem stF_in {α : Type} [DecidableEq α] {a : List α} {x : α} (h : x ∈ a) : stF a x = a := if_pos h
theorem stF_out {α : Type} [DecidableEq α] {a : List α} {x : α} (h : x ∉ a) : stF a x = a ++ [x] := if_neg h
theorem mem_fold {α : Type} [DecidableEq α] : ∀ {l a : List α} {x : α}, x ∈ l.foldl stF a ↔ x ∈ a ∨ x ∈ l
  | [], a, x => by simp
  | y :: l, a, x => by
    rw [List.foldl_cons, mem_fold, List.mem_cons]
    by_cases h : y ∈ a
    · rw [stF_in h]
      constructor
      · rintro (z | z)
        · exact .inl z
        · exact .inr (.inr z)
      · rintro (z | z | z)
        · exact .inl z
        · subst z; exact .inl h
        · exact .inr z
    · rw [stF_out h, List.mem_append, List.mem_singleton]
      constructor
      · rintro ((z | z) | z)
        · exact .inl z
        · exact .inr (.inl z)
        · exact .inr (.inr z)
      · rintro (z | z | z)
        · exact .inl (.inl z)
        · exact .inl (.inr z)
        · exact .inr z
theorem mem_ddF {α : Type} [DecidableEq α] {l : List α} {x : α} : x ∈ ddF l ↔ x ∈ l := by
  unfold ddF
  rw [mem_fold]
  simp
theorem nodup_fold {α : Type} [DecidableEq α] : ∀ {l a : List α}, a.Nodup → (l.foldl stF a).Nodup
  | [], a, h => h
  | y :: l, a, h => by
    rw [List.foldl_cons]
    by_cases z : y ∈ a
    · rw [stF_in z]; exact nodup_fold h
    · rw [stF_out z]
      refine nodup_fold (List.nodup_append.mpr ⟨h, by simp, fun u hu v hv => ?_⟩)
      rw [List.mem_singleton] at hv
      subst hv
      intro e
      subst e
      exact z hu
theorem nodup_ddF {α : Type} [DecidableEq α] (l : List α) : (ddF l).Nodup := nodup_fold List.nodup_nil
abbrev pairD (q : List Int × PyData) : PyData := .tuple [tI q.1, q.2]
section
variable {X : Cx}
end
/-! ### as data -/
def gSD (g : DE) : DE := fun ρ Q => g ρ fun q r ρ1 => ∃ l : List (List Int × PyData), r.seq ρ1 = some (true, l.map pairD) ∧ (∀ p ∈ l, p.1 ≠ []) ∧ Q q (.fr (.lst ((srt ltl (ddF (l.map (·.1)))).map tI))) ρ1
end Dt

namespace Dt
open PySem PySem.Spec PyProof.Rows

/-! ### going on: sorted, texts, ranges -/
section
variable {ρ ρ1 ρ0 : Env} {D : DEnds} {Q : Bool → Res → Env → Prop} {QT : Bool → Bool → Env → Prop} {QA : Bool → List Res → Env → Prop} {QI : List PyData → Env → Prop} {g ga gb gc gd gk gv : DE} {gs : DA} {q neg : Bool} {r r1 r2 r3 res : Res} {rs : List Res}
  {o o1 o2 o3 : OV} {ds es ds2 items : List PyData}
abbrev nrK (R : Env → List Res → Res → Prop) (q : Bool) (rs : List Res) (ρ : Env) (Q : Bool → Res → Env → Prop) : Prop := ∃ res, R ρ rs res ∧ Q q res ρ
theorem gNR_i {R : Env → List Res → Res → Prop} (h : gs ρ fun q rs ρ2 => nrK R q rs ρ2 Q) : gNR R gs ρ Q := h
theorem srt_n {b bb : Bool} {ns : List Int} (e : r.seq ρ = some (bb, ns.map .int)) (h : Q q (.fr (.lst ((srtB b lti ns).map .int))) ρ) : nrK (srtR b) q [r] ρ Q := ⟨_, ⟨r, _, _, rfl, e, .nums ns, rfl⟩, h⟩
abbrev txK (R : Str → List PyData → Res → Prop) (a : Str) (q : Bool) (es : List PyData) (ρ : Env) (Q : Bool → Res → Env → Prop) : Prop := ∃ res, R a es res ∧ Q q res ρ
theorem gTx_i {R : Str → List PyData → Res → Prop} (h : g ρ fun q1 r ρ1 => ∃ a, r = .cl (.str a) ∧ gs ρ1 fun q2 rs ρ2 => ok (clns ρ2 rs) fun es => txK R a (q1 && q2) es ρ2 Q) : gTx R g gs ρ Q := h
theorem str_ex {a : Str} {P : Str → Prop} (h : P a) : ∃ a', Res.cl (.str a) = .cl (.str a') ∧ P a' := ⟨a, rfl, h⟩
abbrev rgK (tup : Bool) (q : Bool) (a b : Int) (ρ : Env) (Q : Bool → Res → Env → Prop) : Prop := L2.RgOk a b ∧ Q q (rgRes tup a b) ρ
theorem gRgV1_i {tup : Bool} (h : g ρ fun q r ρ1 => ok (asI r) fun n => rgK tup q 0 n ρ1 Q) : gRgV1 tup g ρ Q := h
theorem gRgV2_i {tup : Bool} (h : g ρ fun q1 r1 ρ1 => ok (asI r1) fun i => ga ρ1 fun q2 r2 ρ2 => ok (asI r2) fun j => rgK tup (q1 && q2) i j ρ2 Q) : gRgV2 tup g ga ρ Q := h
abbrev sdK (q : Bool) (r : Res) (ρ : Env) (Q : Bool → Res → Env → Prop) : Prop := ∃ l : List (List Int × PyData), r.seq ρ = some (true, l.map pairD) ∧ (∀ p ∈ l, p.1 ≠ []) ∧ Q q (.fr (.lst ((srt ltl (ddF (l.map (·.1)))).map tI))) ρ
theorem gSD_i (h : g ρ fun q r ρ1 => sdK q r ρ1 Q) : gSD g ρ Q := h
theorem boolsOf_map : ∀ l : List Bool, boolsOf (l.map .bool) = some l
  | [] => rfl
  | b :: l => by
    show (boolsOf (l.map .bool)).map _ = _
    rw [boolsOf_map l]
    rfl
theorem bools_e {f : List Bool → Bool} {bs : List Bool} (e : r.seq ρ = some (true, bs.map .bool)) : boolsF f ρ [r] = some (.cl (.bool (f bs))) := by
  unfold boolsF
  simp only [e, boolsOf_map]
  rfl
theorem bools_i {f : List Bool → Bool} {bs : List Bool} (e : r.seq ρ = some (true, bs.map .bool)) (h : Q q (.cl (.bool (f bs))) ρ) : fnK (boolsF f) q [r] ρ Q := ⟨_, bools_e e, h⟩
end
/-! ### x[::-1], list or tuple -/
open L2 in
open L2 in
@[reducible] def rvRes : Bool → List PyData → Res
  | true, ds => .fr (.lst ds.reverse)
  | false, ds => .cl (.tuple ds.reverse)
def gRevA (g : DE) : DE := fun ρ Q => g ρ fun q r ρ' => ok (r.seq ρ') fun p => Q q (rvRes p.1 p.2) ρ'
theorem gRevA_i {ρ : Env} {Q : Bool → Res → Env → Prop} {g : DE} (h : g ρ fun q r ρ' => ok (r.seq ρ') fun p => Q q (rvRes p.1 p.2) ρ') : gRevA g ρ Q := h
end Dt

namespace Dt
open PySem PySem.Spec PyProof.Rows L2

/-! ### methods that lists and tuples have: count, index -/
section
variable {X : Cx} {o e : Expr} {es : List Expr} {to : TE} {t : TA} {name : Str} {apos cpos : Pos} {idL idT : String} {rL rT : V → List V → Hp → VK → Prop}
end
def onK (b : Bool) (f : Bool → List PyData → List PyData → Option PyData) : Bool → List PyData → List PyData → Option PyData := fun c ds es => if c = b then f b ds es else none
def gRdQ (f : Bool → List PyData → List PyData → Option PyData) (g : DE) (ga : DA) : DE := fun ρ Q => g ρ fun q1 r ρ1 => ∃ b, (∃ ds, r.seq ρ1 = some (b, ds)) ∧ ga ρ1 fun q2 rs ρ2 => (r.deep = true → q2 = true) ∧ ok (rdR (onK b f) ρ2 r rs) fun res => Q (q1 && q2) res ρ2
section
variable {X : Cx} {pv : Pins} {apos cpos : Pos} {o e : Expr} {es : List Expr} {g : DE} {ga : DA} {name : Str} {idL idT : String} {rL rT : V → List V → Hp → VK → Prop} {f : Bool → List PyData → List PyData → Option PyData}
end
section
variable {ρ : Env} {Q : Bool → Res → Env → Prop} {g : DE} {gs : DA} {q b : Bool} {r : Res} {rs : List Res} {ds es : List PyData} {f : Bool → List PyData → List PyData → Option PyData} {k : Int} {is : List Int}
abbrev rdqK (b : Bool) (f : Bool → List PyData → List PyData → Option PyData) (q : Bool) (r : Res) (rs : List Res) (ρ : Env) (Q : Bool → Res → Env → Prop) : Prop := ok (rdR (onK b f) ρ r rs) fun res => Q q res ρ
theorem intsOf_map : ∀ is : List Int, intsOf (is.map .int) = some is
  | [] => rfl
  | i :: is => by
    show (intsOf (is.map .int)).map _ = _
    rw [intsOf_map is]
    rfl
end
end Dt

namespace Dt
open PySem PySem.Spec PyProof.Rows L2

/-! ### a raise that is never come to -/
def gRaise : DS := fun _ _ => False
theorem ds_raise {X : Cx} {pv : Pins} {a b : Option Expr} {pos : Pos} : DSv X pv (.Raise a b pos) gRaise := PS.to ps_never fun D σ H ⟨ρ, F, fps, D0, S, h, e⟩ => h.elim
/-! ### l.insert(i, x), l.remove(k) -/
def rInsI : V → List V → Hp → VK → Prop := fun x vs H Q => ∃ (l : Addr) (xs : List V) (i : Int) (y : V), x = .ref l ∧ vs = [.int i, y] ∧ H l = some (.lst xs) ∧ xs.length < sizeLine ∧ 0 ≤ i ∧ i < 2 ^ 63 ∧
    Q .non (upd H l (.lst (xs.take i.toNat ++ [y] ++ xs.drop i.toNat)))
theorem mt_insI {X : Cx} : MtR X "list.insert" rInsI := mt_insert
/-! ### sorted(set(t)), t a tuple of ints -/
section
variable {X : Cx}
end
def gSS (g : DE) : DE := fun ρ Q => g ρ fun q r ρ1 => ∃ ns : List Int, r.seq ρ1 = some (false, ns.map .int) ∧ ns.length < 64 ∧ Q q (.fr (.lst ((srt lti (ddF ns)).map .int))) ρ1
abbrev ssK (q : Bool) (r : Res) (ρ : Env) (Q : Bool → Res → Env → Prop) : Prop := ∃ ns : List Int, r.seq ρ = some (false, ns.map .int) ∧ ns.length < 64 ∧ Q q (.fr (.lst ((srt lti (ddF ns)).map .int))) ρ
theorem gSS_i {ρ : Env} {Q : Bool → Res → Env → Prop} {g : DE} (h : g ρ fun q r ρ1 => ssK q r ρ1 Q) : gSS g ρ Q := h
abbrev sqK (r : Res) (ρ : Env) (P : Bool → Prop) : Prop := ∃ b, (∃ ds, r.seq ρ = some (b, ds)) ∧ P b
theorem gRdQ_s {ρ : Env} {Q : Bool → Res → Env → Prop} {g : DE} {gs : DA} {f : Bool → List PyData → List PyData → Option PyData} (h : g ρ fun q1 r ρ1 => sqK r ρ1 fun b => gs ρ1 fun q2 rs ρ2 => (r.deep = true → q2 = true) ∧ rdqK b f (q1 && q2) r rs ρ2 Q) : gRdQ f g gs ρ Q := h
theorem sq_i {r : Res} {ρ : Env} {P : Bool → Prop} {b : Bool} {ds : List PyData} (e : r.seq ρ = some (b, ds)) (h : P b) : sqK r ρ P := ⟨b, ⟨ds, e⟩, h⟩
end Dt

namespace Dt
open PySem PySem.Spec PyProof.Rows L2

/-! ### for a, b in zip(x, y), two lists or two tuples -/
def zipD (xs ys : List PyData) : List PyData := xs.zipWith (fun x y => .tuple [x, y]) ys
theorem zipD_get {xs ys : List PyData} {i : Nat} {d : PyData} (h : (zipD xs ys)[i]? = some d) : ∃ x y, xs[i]? = some x ∧ ys[i]? = some y ∧ d = .tuple [x, y] := by
  unfold zipD at h
  rw [List.getElem?_zipWith] at h
  cases h1 : xs[i]? with
  | none => rw [h1] at h; cases h
  | some x =>
    cases h2 : ys[i]? with
    | none => rw [h1, h2] at h; cases h
    | some y =>
      rw [h1, h2] at h
      exact ⟨x, y, rfl, rfl, (Option.some.inj h).symm⟩
theorem zipD_len (xs ys : List PyData) : (zipD xs ys).length = min xs.length ys.length := by unfold zipD; rw [List.length_zipWith]
section
variable {K : Fg} {F : Hp} {a b : Addr} {vs ws : List V} {ds es : List PyData}
theorem zip_pair {F1 H : Hp} {T : Addr} {x y : V} {dx dy : PyData} (e2 : Same F1 H) (hT : H T = none) (r1 : Rep K F1 x dx) (r2 : Rep K F1 y dy) : RepB K (upd F1 T (.tup [x, y])) (.ref T) (.tuple [dx, dy]) true ∧ Grow F1 H noA (upd F1 T (.tup [x, y])) (upd H T (.tup [x, y])) noA := by
  have nF : F1 T = none := by
    cases q : F1 T with
    | none => rfl
    | some u => have := e2 _ _ q; rw [hT] at this; cases this
  exact ⟨⟨T, [x, y], rfl, .inl (.inl upd_same), .cons (r1.mono (same_upd nF)) (.cons (r2.mono (same_upd nF)) .nil)⟩, Grow.frozenT e2 hT⟩
theorem iter_zipT (h : SqT K F a vs) (h' : SqT K F b ws) (r : Reps K F vs ds) (r' : Reps K F ws es) : IterOk K true F (RZ.ItzT K a b) (zipD ds es) where
  go := fun F1 H1 i e1 e2 hi => by
    rw [zipD_len] at hi
    obtain ⟨x, hx⟩ := r.has (i := i) (by omega)
    obtain ⟨y, hy⟩ := r'.has (i := i) (by omega)
    exact ⟨vs, ws, x, y, Same.sqT (e1.trans e2) h, Same.sqT (e1.trans e2) h', hx, hy⟩
  stop := fun F1 H1 i e1 e2 hi => by
    rw [zipD_len] at hi
    refine ⟨vs, ws, Same.sqT (e1.trans e2) h, Same.sqT (e1.trans e2) h', ?_⟩
    rw [r.length, r'.length]
    omega
  yld := fun F1 H1 i x H' d e1 e2 hd hy => by
    obtain ⟨T, y1, y2, rfl, hT, rfl, h1, h2⟩ := hy
    obtain ⟨d1, d2, g1, g2, rfl⟩ := zipD_get hd
    obtain ⟨p, q⟩ := zip_pair e2 hT ((r.get g1 (h1 vs (Same.sqT (e1.trans e2) h))).mono e1) ((r'.get g2 (h2 ws (Same.sqT (e1.trans e2) h'))).mono e1)
    exact ⟨_, p, q⟩
theorem iter_zipL (h : SqL K F a vs) (h' : SqL K F b ws) (r : Reps K F vs ds) (r' : Reps K F ws es) : IterOk K true F (Itz K a b) (zipD ds es) where
  go := fun F1 H1 i e1 e2 hi => by
    rw [zipD_len] at hi
    obtain ⟨x, hx⟩ := r.has (i := i) (by omega)
    obtain ⟨y, hy⟩ := r'.has (i := i) (by omega)
    exact ⟨vs, ws, x, y, (e1.trans e2).seq h, (e1.trans e2).seq h', hx, hy⟩
  stop := fun F1 H1 i e1 e2 hi => by
    rw [zipD_len] at hi
    refine ⟨vs, ws, (e1.trans e2).seq h, (e1.trans e2).seq h', ?_⟩
    rw [r.length, r'.length]
    omega
  yld := fun F1 H1 i x H' d e1 e2 hd hy => by
    obtain ⟨T, y1, y2, rfl, hT, rfl, h1, h2⟩ := hy
    obtain ⟨d1, d2, g1, g2, rfl⟩ := zipD_get hd
    obtain ⟨p, q⟩ := zip_pair e2 hT ((r.get g1 (h1 vs ((e1.trans e2).seq h))).mono e1) ((r'.get g2 (h2 ws ((e1.trans e2).seq h'))).mono e1)
    exact ⟨_, p, q⟩
end
/-- both lists, or both tuples -/
def giZip (ga : DA) : DI := fun ρ Q => ga ρ fun _ rs ρ' => ok (clns ρ' rs) fun es => ∃ xs ys, (es = [.list xs, .list ys] ∨ es = [.tuple xs, .tuple ys]) ∧ Q (zipD xs ys) ρ'
theorem di_zip {X : Cx} {pv : Pins} {pos p tpos : Pos} {elts : List Expr} {kk : Nat} {e e2 : Expr} {ga : DA} (hg : Gl X "zip") (hm : X.mg "zip" = none) (ha : DAv X pv [e, e2] ga)
    (hs : starEach [e, e2] X.env = (false, eval e X.env) :: starEach [e2] X.env := by rfl) (hpl : (backTo pos (starEach [e2] X.env)).any (·.1) = false := by rfl) : DIv X pv (.Tuple elts kk tpos) (.Call (.Name "zip" p) [e, e2] [] pos) (giZip ga) :=
  PI.to (RZ.pi_zipA hg hm ha hs hpl) fun σ H R ⟨ρ, F, fps, Q0, S, ex, h, k⟩ => by
    refine ⟨ρ, F, fps, _, S, ex, h, fun q rs ρ' vs H' F' fps' tf ⟨es, hc, xs, ys, hd, q0⟩ S' s R1 _ => ?_⟩
    have G := Grow.frz (tf := tf) S'.le (fun a z => (R1.out a z).1) R1.noT
    have dt : Dsj tf (own ρ' fps') := fun a z w => (R1.out a z).2.2 w
    have ra := R1.clns S' G.le hc fun a z => addF_in z
    have S2 := G.sta S' dt
    have s2 := (G.step s).no
    rcases hd with rfl | rfl
    · cases ra with
      | cons r1 ra =>
        cases ra with
        | cons r2 ra =>
          cases ra
          obtain ⟨a, ws, rfl, h1, h2⟩ := r1.lstI
          obtain ⟨b, us, rfl, h3, h4⟩ := r2.lstI
          exact ⟨a, b, ws, us, rfl, .inl ⟨.of (G.inn _ _ h1), .of (G.inn _ _ h3), k _ ρ' _ H' _ fps' q0 S2 s2 (iter_zipL (.of h1) (.of h3) h2 h4)⟩⟩
    · cases ra with
      | cons r1 ra =>
        cases ra with
        | cons r2 ra =>
          cases ra
          obtain ⟨a, ws, rfl, h1, h2⟩ := r1.tupI
          obtain ⟨b, us, rfl, h3, h4⟩ := r2.tupI
          exact ⟨a, b, ws, us, rfl, .inr ⟨Same.sqT G.inn h1, Same.sqT G.inn h3, k _ ρ' _ H' _ fps' q0 S2 s2 (iter_zipT h1 h3 h2 h4)⟩⟩
abbrev zipK (es : List PyData) (ρ : Env) (Q : List PyData → Env → Prop) : Prop := ∃ xs ys, (es = [.list xs, .list ys] ∨ es = [.tuple xs, .tuple ys]) ∧ Q (zipD xs ys) ρ
theorem giZip_i {ρ : Env} {ga : DA} {Q : List PyData → Env → Prop} (h : ga ρ fun _ rs ρ' => ok (clns ρ' rs) fun es => zipK es ρ' Q) : giZip ga ρ Q := h
theorem zip_t {xs ys : List PyData} {ρ : Env} {Q : List PyData → Env → Prop} (h : Q (zipD xs ys) ρ) : zipK [.tuple xs, .tuple ys] ρ Q := ⟨xs, ys, .inr rfl, h⟩
theorem zip_l {xs ys : List PyData} {ρ : Env} {Q : List PyData → Env → Prop} (h : Q (zipD xs ys) ρ) : zipK [.list xs, .list ys] ρ Q := ⟨xs, ys, .inl rfl, h⟩
end Dt

namespace Dt
open PySem PySem.Spec PyProof.Rows

/-! ### bars as data -/
/-- ints, each greater than the one ahead, below m -/
def risD (m : Int) : Int → List PyData → Bool
  | _, [] => true
  | a, .int i :: r => (decide (a < i) && decide (i < m)) && risD m i r
  | _, _ :: _ => false
/-- an ascending tuple of people -/
def isLot (m : Int) : PyData → Bool
  | .tuple ds => risD m (-1) ds
  | _ => false
theorem risD_ints {m : Int} : ∀ {ds : List PyData} {a : Int}, risD m a ds = true → ∃ ns : List Int, ds = ns.map .int ∧ (∀ n ∈ ns, a < n ∧ n < m) ∧ ns.Pairwise (· < ·)
  | [], a, _ => ⟨[], rfl, fun n h => (by cases h), .nil⟩
  | d :: ds, a, h => by
    cases d with
    | int i =>
      have h : ((decide (a < i) && decide (i < m)) && risD m i ds) = true := h
      obtain ⟨h1, h2⟩ := Bool.and_eq_true_iff.mp h
      obtain ⟨h3, h4⟩ := Bool.and_eq_true_iff.mp h1
      have h3 := of_decide_eq_true h3
      have h4 := of_decide_eq_true h4
      obtain ⟨ns, rfl, h5, h6⟩ := risD_ints h2
      refine ⟨i :: ns, rfl, fun n hn => ?_, List.pairwise_cons.mpr ⟨fun n hn => (h5 n hn).1, h6⟩⟩
      rcases List.mem_cons.mp hn with e | hn
      · subst e; exact ⟨h3, h4⟩
      · have := h5 n hn
        omega
    | _ => cases h
theorem ints_risD {m : Int} : ∀ {ns : List Int} {a : Int}, (∀ n ∈ ns, a < n ∧ n < m) → ns.Pairwise (· < ·) → risD m a (ns.map .int) = true
  | [], _, _, _ => rfl
  | n :: ns, a, h, hp => by
    show ((decide (a < n) && decide (n < m)) && risD m n (ns.map .int)) = true
    have h1 := h n List.mem_cons_self
    obtain ⟨p1, p2⟩ := List.pairwise_cons.mp hp
    rw [decide_eq_true h1.1, decide_eq_true h1.2, ints_risD (fun k hk => ⟨p1 k hk, (h k (List.mem_cons_of_mem _ hk)).2⟩) p2]
    rfl
theorem risD_bad {m a : Int} : ∀ {ds : List PyData} {d : PyData}, d ∈ ds → (∀ i, d = .int i → ¬ (a < i ∧ i < m)) → risD m a ds = false
  | x :: ds, d, hd, h => by
    cases q : risD m a (x :: ds) with
    | false => rfl
    | true =>
      exfalso
      obtain ⟨ns, e, h1, _⟩ := risD_ints q
      rw [e] at hd
      obtain ⟨n, hn, rfl⟩ := List.mem_map.mp hd
      exact h n rfl (h1 n hn)
/-- a pair of lots, nobody in both -/
def isForm (m : Int) : PyData → Bool
  | .tuple [a, b] => isLot m a && (isLot m b && match a, b with
    | .tuple xs, .tuple ys => (match intsOf xs, intsOf ys with
      | some is, some js => is.all fun i => !decide (i ∈ js)
      | _, _ => false)
    | _, _ => false)
  | _ => false
/-- the numbers of some people together -/
def sumAt (row hs : List Int) : Int := (hs.map fun p => row.getD p.toNat 0).sum
def tooMuch (row hi lo : List Int) : Bool := decide ((hi.length : Int) * ((row.length : Int) - 1 - lo.length) < sumAt row hi - sumAt row lo)
/-- a comprehension over told things, with a test -/
theorem lcK_fm {α : Type} {vs : List Nat} {tg : DG} {t : DT} {g : DE} {ρ : Env} {Q : Bool → Res → Env → Prop} (ρ0 : Env) (e : α → PyData) (p : α → Bool) (f : α → PyData) (l : List α) (ew : wipeE ρ vs = ρ0) (hl : l.length ≤ 1000000)
    (hs : ∀ a ∈ l, ∀ (K1 : Env → PyData → Prop) (K0 : Env → Prop), (p a = true → ∀ ρ2, wipeE ρ2 vs = ρ0 → K1 ρ2 (f a)) → (p a = false → ∀ ρ2, wipeE ρ2 vs = ρ0 → K0 ρ2) →
      tg (e a) ρ0 fun ρ1 => t ρ1 fun _ b ρ2 => if b = true then g ρ2 fun _ r ρ3 => ok (r.cln ρ3) fun d => K1 ρ3 d else K0 ρ2)
    (k : Q false (.fr (.lst ((l.filter p).map f))) ρ0) : lcK vs tg t g (l.map e) ρ Q := by
  refine lcK_inv (fun j ρ acc => ρ = ρ0 ∧ acc = ((l.take j).filter p).map f) ⟨ew, rfl⟩ (small (m := 1000000) (by rw [List.length_map]; exact hl)) ?_ ?_
  · rintro j x _ _ hx ⟨rfl, rfl⟩ K1 K0 h1 h0
    obtain ⟨a, ha, rfl⟩ := map_get hx
    refine hs a (List.mem_of_getElem? ha) K1 K0 (fun hp ρ2 h => h1 ρ2 _ ⟨h, ?_⟩) fun hp ρ2 h => h0 ρ2 ⟨h, ?_⟩
    · rw [tk_snoc ha, List.filter_append, List.map_append, List.filter_cons_of_pos hp]
      rfl
    · rw [tk_snoc ha, List.filter_append, List.filter_cons_of_neg (by rw [hp]; decide)]
      simp
  · rintro _ _ ⟨rfl, rfl⟩
    rw [List.length_map, List.take_length]
    exact k
/-- without a test -/
theorem lcK_map {α : Type} {vs : List Nat} {tg : DG} {t : DT} {g : DE} {ρ : Env} {Q : Bool → Res → Env → Prop} (ρ0 : Env) (e : α → PyData) (f : α → PyData) (l : List α) (ew : wipeE ρ vs = ρ0) (hl : l.length ≤ 1000000)
    (hs : ∀ a ∈ l, ∀ (K1 : Env → PyData → Prop) (K0 : Env → Prop), (∀ ρ2, wipeE ρ2 vs = ρ0 → K1 ρ2 (f a)) →
      tg (e a) ρ0 fun ρ1 => t ρ1 fun _ b ρ2 => if b = true then g ρ2 fun _ r ρ3 => ok (r.cln ρ3) fun d => K1 ρ3 d else K0 ρ2)
    (k : Q false (.fr (.lst (l.map f))) ρ0) : lcK vs tg t g (l.map e) ρ Q :=
  lcK_fm ρ0 e (fun _ => true) f l ew hl (fun a ha K1 K0 h1 _ => hs a ha K1 K0 (h1 rfl)) (by rw [List.filter_eq_self.mpr fun _ _ => rfl]; exact k)
theorem sum_i {q : Bool} {r : Res} {ρ : Env} {Q : Bool → Res → Env → Prop} {b : Bool} {is : List Int} (e : r.seq ρ = some (b, is.map .int)) (h : Q q (.cl (.int is.sum)) ρ) : fnK (intsF fun is => some is.sum) q [r] ρ Q := ⟨_, by
  unfold intsF
  show (r.seq ρ).bind _ = _
  rw [e]
  show (intsOf (is.map .int)).bind _ = _
  rw [intsOf_map]
  rfl, h⟩
theorem isForm_ints {m : Int} {ns ms : List Int} (h1 : isLot m (.tuple (ns.map .int)) = true) (h2 : isLot m (.tuple (ms.map .int)) = true) : isForm m (.tuple [.tuple (ns.map .int), .tuple (ms.map .int)]) = ns.all fun i => !decide (i ∈ ms) := by
  show (isLot m _ && (isLot m _ && _)) = _
  rw [h1, h2]
  show (match intsOf (ns.map .int), intsOf (ms.map .int) with
      | some is, some js => is.all fun i => !decide (i ∈ js)
      | _, _ => false) = _
  rw [intsOf_map, intsOf_map]
/-- what is wrong with a value as a bar -/
def lotsOf : PyData → List Int × List Int
  | .tuple [.tuple xs, .tuple ys] => ((intsOf xs).getD [], (intsOf ys).getD [])
  | _ => ([], [])
def isOddS : PyData → Bool
  | .str s => s == ("odd" : Str)
  | _ => false
def barDue (row : List Int) (d : PyData) : PyData :=
  if isOddS d = true then (if row.sum % 2 = 1 then .none else .str "even")
  else if isForm row.length d = true then (if tooMuch row (lotsOf d).1 (lotsOf d).2 = true then .none else .str "little") else .str "form"
def layS : PyData → Prop
  | .str s => PyData.canLay0 (.str s) = true
  | _ => True
end Dt

namespace Dt
open PySem PySem.Spec PyProof.Rows L2

/-! ### min(a, b), max(a, b) of two ints -/
end Dt

namespace Dt
open PySem PySem.Spec PyProof.Rows L2

/-! ### what holds of all items of a menu -/
theorem allM_cons {α : Type} {P : α → Prop} {a : α} {l : List α} (h : P a) (h2 : ∀ v ∈ l, P v) : ∀ v ∈ a :: l, P v := fun v hv => by
  rcases List.mem_cons.mp hv with rfl | hv
  · exact h
  · exact h2 v hv
theorem ddF_len {α : Type} [DecidableEq α] (l : List α) : (ddF l).length ≤ l.length := by
  have : ∀ {a b : List α}, a.Nodup → (∀ x ∈ a, x ∈ b) → a.length ≤ b.length := by
    intro a
    induction a with
    | nil => intro b _ _; exact Nat.zero_le _
    | cons x a ih =>
      intro b hn hs
      have hx := hs x List.mem_cons_self
      have hn2 := List.nodup_cons.mp hn
      have := ih (b := b.erase x) hn2.2 fun y hy => (List.mem_erase_of_ne (fun e => hn2.1 (by rw [← e]; exact hy))).mpr (hs y (List.mem_cons_of_mem _ hy))
      rw [List.length_erase_of_mem hx] at this
      have := List.length_pos_of_mem hx
      rw [List.length_cons]
      omega
  exact this (nodup_ddF l) fun x h => mem_ddF.mp h
theorem srt_ddF_len (ns : List Int) : (srt lti (ddF ns)).length ≤ ns.length := by
  rw [show (srt lti (ddF ns)).length = (ddF ns).length from (srtB_perm false lti (ddF ns)).length_eq]
  exact ddF_len ns
theorem srt_ddF_mem {ns : List Int} {x : Int} : x ∈ srt lti (ddF ns) ↔ x ∈ ns := (srtB_perm false lti (ddF ns)).mem_iff.trans mem_ddF
end Dt

namespace Dt
open PySem PySem.Spec PyProof.Rows L2

/-! ### calls of defs that may raise -/
section
variable {X : L2.Cx} {CX : CXT} {k n : Nat} {f : Addr} {fd : FuncData} {ps ks : List Str} {sp : Sp} {E : L2.St → XK} {x : Str} {p pos : Pos} {e : Expr} {es : List Expr} {kws : List Keyword} {t tk : TA} {gg : List Value → List Value → List Value} {gV : List V → List V → List V}
end
/-- a call of a def that may raise; XE: what is wished of what it raises -/
def gCallX (XE : Exc → Env → Prop) (G : SpecX) (n : Nat) (ga : DA) : DE := fun ρ Q => ga ρ fun q rs ρ1 => ok (argOs ρ1 rs) fun os => (slNd rs = true ∧ rs.length = n) ∧ G os (fun r ρf => Q (q && noSl rs) r (back ρ1 rs ρf)) fun x ρf => XE x (back ρ1 rs ρf)
def gCallXK (XE : Exc → Env → Prop) (G : SpecX) (n a : Nat) (pm : List Nat) (ga gk : DA) : DE := fun ρ Q => ga ρ fun q1 rs ρ1 => rs.length = a ∧ gk ρ1 fun q2 ks ρ2 => (rs.all (fun r => !r.deep) = true ∧ (rs ++ ks).length = n) ∧ ok (argOs ρ2 (permL pm (rs ++ ks))) fun os => (slNd (permL pm (rs ++ ks)) = true ∧ (permL pm (rs ++ ks)).length = n) ∧
  G os (fun r ρf => Q (q1 && (q2 && noSl (permL pm (rs ++ ks)))) r (back ρ2 (permL pm (rs ++ ks)) ρf)) fun x ρf => XE x (back ρ2 (permL pm (rs ++ ks)) ρf)
section
variable {X : L2.Cx} {pv : Pins} {pos p : Pos} {k n m : Nat} {f : Addr} {fd : FuncData} {ps ks : List Str} {x : Str} {e : Expr} {es : List Expr} {kws : List Keyword} {ga gk : DA} {G : SpecX} {pm : List Nat}
end
end Dt

namespace Dt
open PySem PySem.Spec PyProof.Rows L2

/-! ### own exception classes, each directly under one base class, which stands under ValueError -/
/-- the base class at C0: its __init__ is ValueError's -/
structure OxB (K : Fg) (mg : Str → Option Value) (b : Str) (C0 : Addr) : Prop where
  gB : mg b = some (.ref C0)
  sp : PySem.W.specialIn K (.ref C0) "__getattribute__" = some (some (.builtin "type.__getattribute__"))
  rd : PySem.W.readsIn K C0 (.type "type") = true
  fi : PySem.W.findCls K (.ref C0) (.type "type") "__init__" = some (.val (.builtin "ValueError.__init__"))
/-- an own class at C, its __init__ at fI -/
structure OxC (K : Fg) (mg : Str → Option Value) (x : Str) (C fI : Addr) : Prop where
  gC : mg x = some (.ref C)
  ox : OexC K C
  iC : PySem.W.findIn K (.ref C) "__init__" = some (some (.ref fI))
  tI : PySem.W.typeIn K (.ref fI) = some (.type "function")
section
variable {X : L2.Cx} {o e : Expr} {es : List Expr} {ta : TA} {b : Str} {C0 : Addr} {p1 p2 pos : Pos}
end
section
variable {X : L2.Cx} {pins : List (Addr × Obj)} {σ : L2.St} {C fI : Addr} {x : Str} {k : Nat} {fd : FuncData}
end
/-! ### raise -/
def gRaise0 (nm : Str) (XE : Exc → Env → Prop) : DS := fun D ρ => XE ⟨nm, []⟩ ρ
def gRaise1 (nm f : Str) (XE : Exc → Env → Prop) (ga : DA) : DS := fun D ρ => ga ρ fun q rs ρ' => ok (clns ρ' rs) fun ds => ∃ d, ds = [d] ∧ XE ⟨nm, [(f, d)]⟩ ρ'
section
variable {X : L2.Cx} {pv : Pins} {C fI : Addr} {x f : Str} {k : Nat} {fd : FuncData} {p pos pos2 : Pos} {e : Expr} {ga : DA}
end
/-! ### a suite that hands back a list -/
/-- the fields of an exception whose dict is d -/
def XdAt (H : Hp) (d : Option Addr) (xvs : List (Str × V)) : Prop := match d with
  | none => xvs = []
  | some dd => H dd = some (.xd xvs)
/-- what isinstance must know of the class D of the exception -/
structure OxI (K : Fg) (D : Addr) : Prop where
  cl : (PySem.W.clsIn K D).isSome = true
  hg : PySem.W.findIn K (.ref D) "__getattribute__" = some (some (.builtin "BaseException.__getattribute__"))
  hk : PySem.W.findIn K (.ref D) "__getattr__" = some none
  hs : PySem.W.subIn K (.ref D) (.type "BaseException") = some true
  hd : PySem.W.hasDictIn K D = true
  ha : PySem.W.findIn K (.ref D) "__class__" = some (some (.builtin "object.__class__"))
  hn : PySem.W.specialIn K (.builtin "object.__class__") "__get__" = some (some (.builtin "getset_descriptor.__get__"))
  ht : PySem.W.takesIn K (.builtin "object.__class__") = some true
  hm : PySem.W.mroIn K D (.type "object") = some true
section
variable {X : L2.Cx} {i : Nat} {a D : Addr} {oe : Obj} {d : Option Addr} {pn : List (Addr × Obj)} {e : Expr} {pos p pn' pT : Pos} {n : Str}
end
end Dt

namespace Dt
open PySem PySem.Spec PyProof.Rows L2

/-! ### try: .. except C as n: return [..] -/
/-- what stands in the list: a text, a field of the exception, a bool that is known -/
inductive SI where
  | str (s : Str)
  | fld (f : Str)
  | bl (b : Bool)
def SI.v (xvs : List (Str × V)) : SI → Option V
  | .str s => some (.str s)
  | .fld f => xvs.lookup f
  | .bl b => some (.bl b)
def SI.d (fs : List (Str × PyData)) : SI → Option PyData
  | .str s => some (.str s)
  | .fld f => fs.lookup f
  | .bl b => some (.bool b)
def siV (xvs : List (Str × V)) : List SI → Option (List V)
  | [] => some []
  | k :: ks => (k.v xvs).bind fun v => (siV xvs ks).bind fun vs => some (v :: vs)
def siD (fs : List (Str × PyData)) : List SI → Option (List PyData)
  | [] => some []
  | k :: ks => (k.d fs).bind fun v => (siD fs ks).bind fun vs => some (v :: vs)
def SuA (X : L2.Cx) (i : Nat) (a : Addr) (oe : Obj) (d : Option Addr) (pn : List (Addr × Obj)) (es : List Expr) (ks : List SI) : Prop :=
  ∀ xvs vs, siV xvs ks = some vs → PA (X.suite a ((a, oe) :: pn)) es (fun σ H Q => σ[i]? = some (some (.ref a)) ∧ XdAt H d xvs ∧ Q vs H)
section
variable {X : L2.Cx} {i : Nat} {a D : Addr} {oe : Obj} {d : Option Addr} {pn : List (Addr × Obj)} {e : Expr} {es : List Expr} {k : SI} {ks : List SI}
end
def gTry (i : Nat) (nm : Str) (known : List Str) (ks : List SI) (gb : (Exc → Env → Prop) → DS) (XE : Exc → Env → Prop) : DS := fun D ρ =>
  gb (fun x ρ' => x.cls ∈ known ∧ if (x.cls == nm) = true then i < ρ'.length ∧ ok (siD x.fs ks) fun ds => D.rt (.fr (.lst ds)) ρ' else XE x ρ') D ρ
section
variable {X : L2.Cx} {l : List (Option V)} {T : Tbl} {XE : Exc → Env → Prop} {Wo : WX} {x n : Str} {c : Value} {i : Nat} {body : List Stmt} {es : List Expr} {np pos pos' lp rp : Pos} {known : List Str} {ks : List SI} {gb : (Exc → Env → Prop) → DS}
end
end Dt

namespace Dt
open PySem PySem.Spec PyProof.Rows L2

/-! ### helpers: lists of ints as data -/
theorem ints_of {P : Int → Prop} : ∀ {es : List PyData}, (∀ d ∈ es, ∃ i, d = .int i ∧ P i) → ∃ is : List Int, es = is.map .int ∧ ∀ i ∈ is, P i
  | [], _ => ⟨[], rfl, fun i h => nomatch h⟩
  | d :: es, h => by
    obtain ⟨i, rfl, hi⟩ := h d List.mem_cons_self
    obtain ⟨is, rfl, h2⟩ := ints_of (es := es) fun d hd => h d (List.mem_cons_of_mem _ hd)
    exact ⟨i :: is, rfl, allM_cons hi h2⟩
/-! ### the items of a suite's list, by their kinds -/
section
variable {X : L2.Cx} {i : Nat} {a D : Addr} {oe : Obj} {d : Option Addr} {pn : List (Addr × Obj)} {e : Expr} {es : List Expr} {k : SI} {ks : List SI} {pos p pn' pT : Pos} {n : Str}
end
end Dt

namespace Dt
open PySem PySem.Spec PyProof.Rows L2

/-! ### webs: order of the pairs, lines as a choice out of all pairs, degrees by neighbours -/
def lineOf (a b : Int) : Ln := if a < b then (a, b) else (b, a)
theorem lineOf_comm {a b : Int} : lineOf a b = lineOf b a := by
  unfold lineOf
  by_cases h : a < b
  · rw [if_pos h, if_neg (by omega)]
  · rw [if_neg h]
    by_cases h2 : b < a
    · rw [if_pos h2]
    · rw [if_neg h2]; congr 1 <;> omega
theorem lineOf_lt {a b : Int} (h : a < b) : lineOf a b = (a, b) := if_pos h
theorem lineOf_gt {a b : Int} (h : b < a) : lineOf a b = (b, a) := if_neg (by omega)
theorem lineOf_eq {u v : Int} {p : Ln} (z : lineOf u v = p) : (p.1 = u ∧ p.2 = v) ∨ (p.1 = v ∧ p.2 = u) := by
  unfold lineOf at z
  split at z
  · exact .inl ⟨by rw [← z], by rw [← z]⟩
  · exact .inr ⟨by rw [← z], by rw [← z]⟩
theorem rangeI_lt (lo : Int) (n : Nat) : (rangeI lo n).Pairwise (· < ·) := by
  unfold rangeI
  rw [List.pairwise_map]
  exact List.pairwise_lt_range.imp fun h => by omega
theorem rangeI_nodup (lo : Int) (n : Nat) : (rangeI lo n).Nodup := (rangeI_lt lo n).imp fun h => by omega
/-- the lesser pair first -/
def lnLt (p q : Ln) : Prop := p.1 < q.1 ∨ (p.1 = q.1 ∧ p.2 < q.2)
theorem allP_lt (m : Nat) : (allP m).Pairwise lnLt := by
  unfold allP
  rw [List.pairwise_flatMap]
  refine ⟨fun a ha => ?_, (rangeI_lt 0 m).imp fun {a b} h p hp q hq => ?_⟩
  · unfold rowP
    rw [List.pairwise_map]
    exact (rangeI_lt _ _).imp fun h => .inr ⟨rfl, h⟩
  · unfold rowP at hp hq
    obtain ⟨x, _, rfl⟩ := List.mem_map.mp hp
    obtain ⟨y, _, rfl⟩ := List.mem_map.mp hq
    exact .inl h
theorem lnLt_ne {p q : Ln} (h : lnLt p q) : p ≠ q := fun e => by
  subst e
  unfold lnLt at h
  omega
theorem allP_nodup (m : Nat) : (allP m).Nodup := (allP_lt m).imp lnLt_ne
theorem mem_allP_iff {m : Nat} {p : Ln} : p ∈ allP m ↔ 0 ≤ p.1 ∧ p.1 < p.2 ∧ p.2 < m := by
  refine ⟨mem_allP, fun ⟨h1, h2, h3⟩ => ?_⟩
  unfold allP
  refine List.mem_flatMap.mpr ⟨p.1, mem_rangeI.mpr (by omega), ?_⟩
  unfold rowP
  exact List.mem_map.mpr ⟨p.2, mem_rangeI.mpr (by omega), rfl⟩
theorem sub_filter {α : Type} [BEq α] [LawfulBEq α] : ∀ {l k : List α}, l.Sublist k → k.Nodup → l = k.filter fun x => decide (x ∈ l)
  | _, _, .slnil, _ => rfl
  | l, _, .cons (l₂ := k) x h, n => by
    have n2 := List.nodup_cons.mp n
    have hx : x ∉ l := fun z => n2.1 (h.subset z)
    rw [List.filter_cons, if_neg (by simpa using hx)]
    exact sub_filter h n2.2
  | _, _, .cons₂ (l₁ := l) (l₂ := k) x h, n => by
    have n2 := List.nodup_cons.mp n
    rw [List.filter_cons, if_pos (by simp)]
    congr 1
    refine (sub_filter h n2.2).trans (List.filter_congr fun y hy => ?_)
    have : y ≠ x := fun e => n2.1 (by rw [← e]; exact hy)
    simp [this]
theorem IsWeb.filter {m : Nat} {ls : List Ln} (h : IsWeb m ls) : ls = (allP m).filter fun p => decide (p ∈ ls) := sub_filter h (allP_nodup m)
theorem isWeb_filter (m : Nat) (f : Ln → Bool) : IsWeb m ((allP m).filter f) := List.filter_sublist
theorem IsWeb.nodup {m : Nat} {ls : List Ln} (h : IsWeb m ls) : ls.Nodup := List.Nodup.sublist h (allP_nodup m)
theorem web_ext {m : Nat} {l k : List Ln} (hl : IsWeb m l) (hk : IsWeb m k) (h : ∀ p, p ∈ allP m → (p ∈ l ↔ p ∈ k)) : l = k := by
  rw [hl.filter, hk.filter]
  exact List.filter_congr fun p hp => by simp only [h p hp]
/-- how many somebody has, by the others -/
def nb (m : Nat) (ls : List Ln) (v : Int) : Nat := (rangeI 0 m).countP fun u => decide (u ≠ v) && decide (lineOf u v ∈ ls)
theorem countP_one {α : Type} [DecidableEq α] {A : α → Bool} {w : α} : ∀ {l : List α}, l.Nodup → w ∈ l → A w = false → l.countP (fun u => A u || decide (u = w)) = l.countP A + 1
  | [], _, h, _ => nomatch h
  | x :: l, n, h, hA => by
    have n2 := List.nodup_cons.mp n
    rw [List.countP_cons, List.countP_cons]
    by_cases e : x = w
    · subst e
      have : l.countP (fun u => A u || decide (u = x)) = l.countP A := List.countP_congr fun y hy => by
        have : y ≠ x := fun e => n2.1 (by rw [← e]; exact hy)
        simp [this]
      rw [this, hA]
      simp
    · have hw : w ∈ l := (List.mem_cons.mp h).resolve_left fun z => e z.symm
      rw [countP_one n2.2 hw hA]
      simp [e]
      omega
theorem deg_nb {m : Nat} {v : Int} (hv : 0 ≤ v ∧ v < m) : ∀ {ls : List Ln}, ls.Nodup → (∀ p ∈ ls, 0 ≤ p.1 ∧ p.1 < p.2 ∧ p.2 < m) → degI ls v = nb m ls v
  | [], _, _ => by
    unfold degI nb
    simp
  | p :: ls, n, h => by
    have n2 := List.nodup_cons.mp n
    have ih := deg_nb hv n2.2 fun q hq => h q (List.mem_cons_of_mem _ hq)
    obtain ⟨h1, h2, h3⟩ := h p List.mem_cons_self
    have e1 : degI (p :: ls) v = degI ls v + (if p.1 = v ∨ p.2 = v then 1 else 0) := by
      unfold degI
      rw [List.countP_cons]
      by_cases a : p.1 = v <;> by_cases b : p.2 = v <;> simp [a, b]
    rw [e1, ih]
    have mem : ∀ u, lineOf u v ∈ p :: ls ↔ lineOf u v = p ∨ lineOf u v ∈ ls := fun u => List.mem_cons
    by_cases ha : p.1 = v
    · rw [if_pos (.inl ha)]
      have : nb m (p :: ls) v = nb m ls v + 1 := by
        unfold nb
        rw [← countP_one (w := p.2) (rangeI_nodup 0 m) (mem_rangeI.mpr (by omega)) (by
          rw [lineOf_gt (by omega), ← ha]
          simp [n2.1])]
        refine List.countP_congr fun u hu => ?_
        by_cases e : u = p.2
        · subst e
          rw [lineOf_gt (by omega), ← ha]
          simp
          omega
        · have : lineOf u v ≠ p := fun z => by
            have := lineOf_eq z
            omega
          simp [mem, this, e]
      omega
    · by_cases hb : p.2 = v
      · rw [if_pos (.inr hb)]
        have : nb m (p :: ls) v = nb m ls v + 1 := by
          unfold nb
          rw [← countP_one (w := p.1) (rangeI_nodup 0 m) (mem_rangeI.mpr (by omega)) (by
            rw [lineOf_lt (by omega), ← hb]
            simp [n2.1])]
          refine List.countP_congr fun u hu => ?_
          by_cases e : u = p.1
          · subst e
            rw [lineOf_lt (by omega), ← hb]
            simp
            omega
          · have : lineOf u v ≠ p := fun z => by
              have := lineOf_eq z
              omega
            simp [mem, this, e]
        omega
      · rw [if_neg (by omega)]
        have : nb m (p :: ls) v = nb m ls v := by
          unfold nb
          refine List.countP_congr fun u hu => ?_
          have : lineOf u v ≠ p := fun z => by
            have := lineOf_eq z
            omega
          simp [mem, this]
        omega
theorem IsWeb.deg {m : Nat} {ls : List Ln} (h : IsWeb m ls) {v : Int} (hv : 0 ≤ v ∧ v < m) : degI ls v = nb m ls v := deg_nb hv h.nodup fun p hp => h.mem hp
/-! ### contrary, renamed, with a person more -/
def otherL (m : Nat) (ls : List Ln) : List Ln := (allP m).filter fun p => !decide (p ∈ ls)
theorem otherL_web (m : Nat) (ls : List Ln) : IsWeb m (otherL m ls) := isWeb_filter _ _
theorem mem_otherL {m : Nat} {ls : List Ln} {p : Ln} : p ∈ otherL m ls ↔ p ∈ allP m ∧ p ∉ ls := by unfold otherL; simp
theorem lineOf_mem {m : Nat} {x y : Int} (hx : 0 ≤ x ∧ x < m) (hy : 0 ≤ y ∧ y < m) (ne : x ≠ y) : lineOf x y ∈ allP m := by
  refine mem_allP_iff.mpr ?_
  unfold lineOf
  by_cases h : x < y
  · rw [if_pos h]; simp only; omega
  · rw [if_neg h]; simp only; omega
theorem rangeI_succ (m : Nat) : rangeI 0 (m + 1) = rangeI 0 m ++ [(m : Int)] := by
  unfold rangeI
  rw [List.range_succ, List.map_append]
  simp
/-! ### sorted lines -/
def toL (p : Ln) : List Int := [p.1, p.2]
/-! ### going on -/
theorem in_ln2 (x y : Int) (ls : List Ln) : inD false (.tuple [.int x, .int y]) (.tuple (ls.map lnD)) = some (decide ((x, y) ∈ ls)) := in_lns ls (x, y)
theorem ni_ln2 (x y : Int) (ls : List Ln) : inD true (.tuple [.int x, .int y]) (.tuple (ls.map lnD)) = some (!decide ((x, y) ∈ ls)) := ni_lns ls (x, y)
end Dt

namespace Dt
open PySem PySem.Spec PyProof.Rows L2

/-! ### going on: raise, try, calls of defs that may raise -/
section
variable {XE : Exc → Env → Prop} {nm f : Str} {ga gk : DA} {D : DEnds} {ρ : Env} {G : SpecX} {n m i : Nat} {pm : List Nat} {Q : Bool → Res → Env → Prop} {known : List Str} {ks : List SI} {gb : (Exc → Env → Prop) → DS}
theorem gRaise0_i (h : XE ⟨nm, []⟩ ρ) : gRaise0 nm XE D ρ := h
theorem gRaise1_i (h : ga ρ fun q rs ρ' => ok (clns ρ' rs) fun ds => ∃ d, ds = [d] ∧ XE ⟨nm, [(f, d)]⟩ ρ') : gRaise1 nm f XE ga D ρ := h
theorem one_exc {d : PyData} {R : PyData → Prop} (h : R d) : ∃ d', [d] = [d'] ∧ R d' := ⟨d, rfl, h⟩
abbrev tryX (i : Nat) (nm : Str) (known : List Str) (ks : List SI) (D : DEnds) (XE : Exc → Env → Prop) : Exc → Env → Prop := fun x ρ' => x.cls ∈ known ∧ if (x.cls == nm) = true then i < ρ'.length ∧ ok (siD x.fs ks) fun ds => D.rt (.fr (.lst ds)) ρ' else XE x ρ'
theorem gTry_i (h : gb (tryX i nm known ks D XE) D ρ) : gTry i nm known ks gb XE D ρ := h
abbrev callXK1 (XE : Exc → Env → Prop) (G : SpecX) (n : Nat) (q : Bool) (rs : List Res) (ρ : Env) (Q : Bool → Res → Env → Prop) : Prop := ok (argOs ρ rs) fun os => (slNd rs = true ∧ rs.length = n) ∧ G os (fun r ρf => Q (q && noSl rs) r (back ρ rs ρf)) fun x ρf => XE x (back ρ rs ρf)
theorem gCallX_i (h : ga ρ fun q rs ρ1 => callXK1 XE G n q rs ρ1 Q) : gCallX XE G n ga ρ Q := h
theorem gCallXK_i (h : ga ρ fun q1 rs ρ1 => rs.length = m ∧ gk ρ1 fun q2 ks ρ2 => (rs.all (fun r => !r.deep) = true ∧ (rs ++ ks).length = n) ∧ ok (argOs ρ2 (permL pm (rs ++ ks))) fun os => (slNd (permL pm (rs ++ ks)) = true ∧ (permL pm (rs ++ ks)).length = n) ∧
  G os (fun r ρf => Q (q1 && (q2 && noSl (permL pm (rs ++ ks)))) r (back ρ2 (permL pm (rs ++ ks)) ρf)) fun x ρf => XE x (back ρ2 (permL pm (rs ++ ks)) ρf)) : gCallXK XE G n m pm ga gk ρ Q := h
end
end Dt

namespace Dt
open PySem PySem.Spec PyProof.Rows L2

/-! ### what is drawn of, handed on alone -/
/-- what stood in the heap stands, but at the cells cs -/
def Ext (H H' : Hp) (cs : List Addr) : Prop := ∀ c u, H c = some u → c ∉ cs → H' c = some u
theorem Ext.refl (H : Hp) (cs : List Addr) : Ext H H cs := fun _ _ h _ => h
theorem Ext.fresh {H H1 : Hp} {cs : List Addr} {p : Addr} {o : HO} (h : Ext H H1 cs) (hp : H1 p = none) : Ext H (upd H1 p o) cs := fun c u e n => by
  have e1 := h c u e n
  rw [upd_ne (fun z => by subst z; rw [hp] at e1; cases e1)]
  exact e1
theorem Ext.own {H H1 : Hp} {cs : List Addr} {p : Addr} {o : HO} (h : Ext H H1 cs) (hp : p ∈ cs) : Ext H (upd H1 p o) cs := fun c u e n => by
  rw [upd_ne (fun z => by subst z; exact n hp)]
  exact h c u e n
/-- a def that draws: shown by its own walk -/
theorem mod_fine {r m : Int} (h : 1 ≤ m) : 0 ≤ r % m ∧ r % m < m := ⟨Int.emod_nonneg _ (by omega), Int.emod_lt_of_pos _ (by omega)⟩
end Dt

namespace Dt
open PySem PySem.Spec PyProof.Rows L2

/-! ### D.get(x, d): D a dict of the module, its keys texts, its values ints -/
/-- what the written part says of the dict -/
structure KTab (K : Fg) (w : World) (mg : Str → Option Value) (nm : Str) (kvs : List (Str × Int)) : Prop where
  ex : ∃ (a : Addr) (es : Array DictEntry) (n : Nat), mg nm = some (.ref a) ∧ K.lookup a = some ⟨.type "dict", none, .dict es n, #[]⟩ ∧ PySem.W.KeysLit w.params es.toList ∧ (a == sysModules) = false ∧
    ∀ z : Str, match kvs.lookup z with
      | some i => ∃ t, findBy Value.isStrOf es z = some (.int i t)
      | none => findBy Value.isStrOf es z = none
def gKG (kvs : List (Str × Int)) (g gd : DE) : DE := fun ρ Q => g ρ fun q1 r ρ1 => ∃ z, r = .cl (.str z) ∧ gd ρ1 fun q2 r2 ρ2 => ∃ i, r2 = .cl (.int i) ∧ Q (q1 && q2) (.cl (.int ((kvs.lookup z).getD i))) ρ2
section
variable {X : L2.Cx} {pv : Pins} {e f : Expr} {g gd : DE} {nm : Str} {kvs : List (Str × Int)} {p apos cpos : Pos}
end
end Dt

namespace Dt
open PySem PySem.Spec PyProof.Rows L2

/-! ### len(dict(ps)), ps a list of pairs whose first is an int -/
def pairI (p : Int × PyData) : PyData := .tuple [.int p.1, p.2]
def gLD (g : DE) : DE := fun ρ Q => g ρ fun q r ρ1 => ∃ l : List (Int × PyData), r.seq ρ1 = some (true, l.map pairI) ∧ Q q (.cl (.int (ddF (l.map (·.1))).length)) ρ1
section
variable {X : L2.Cx} {pv : Pins} {g : DE} {e : Expr} {p pos p2 pos2 : Pos}
end
abbrev ldK (q : Bool) (r : Res) (ρ : Env) (Q : Bool → Res → Env → Prop) : Prop := ∃ l : List (Int × PyData), r.seq ρ = some (true, l.map pairI) ∧ Q q (.cl (.int (ddF (l.map (·.1))).length)) ρ
theorem gLD_i {ρ : Env} {Q : Bool → Res → Env → Prop} {g : DE} (h : g ρ fun q r ρ1 => ldK q r ρ1 Q) : gLD g ρ Q := h
abbrev kgK (kvs : List (Str × Int)) (gd : DE) (q1 : Bool) (r : Res) (ρ1 : Env) (Q : Bool → Res → Env → Prop) : Prop := ∃ z, r = .cl (.str z) ∧ gd ρ1 fun q2 r2 ρ2 => ∃ i, r2 = .cl (.int i) ∧ Q (q1 && q2) (.cl (.int ((kvs.lookup z).getD i))) ρ2
theorem gKG_i {kvs : List (Str × Int)} {ρ : Env} {Q : Bool → Res → Env → Prop} {g gd : DE} (h : g ρ fun q1 r ρ1 => kgK kvs gd q1 r ρ1 Q) : gKG kvs g gd ρ Q := h
theorem int_ex {i : Int} {P : Int → Prop} (h : P i) : ∃ i', Res.cl (.int i) = .cl (.int i') ∧ P i' := ⟨i, rfl, h⟩
end Dt

namespace Dt
open PySem PySem.Spec PyProof.Rows L2

/-! ### a, b, c, d = w, x, y, z (by a tuple) -/
def gPar4 (i j l m : Nat) (ga : DA) : DS := fun D ρ => ga ρ fun _ rs ρ' => match rs with
  | [r1, r2, r3, r4] => (i < ρ'.length ∧ j < ρ'.length ∧ l < ρ'.length ∧ m < ρ'.length) ∧ ok (keepR ρ' r1) fun o1 => ok (keepR ρ' r2) fun o2 => ok (keepR ρ' r3) fun o3 => ok (keepR ρ' r4) fun o4 => D.nx ((((ρ'.set i (some o1)).set j (some o2)).set l (some o3)).set m (some o4))
  | _ => False
section
variable {X : Cx} {pv : Pins} {pos : Pos}
end
section
variable {ρ : Env} {i j l m : Nat} {r1 r2 r3 r4 : Res} {o1 o2 o3 o4 : OV} {gs : DA}
abbrev parK4 (i j l m : Nat) (rs : List Res) (ρ : Env) (K : Env → Prop) : Prop := match rs with
  | [r1, r2, r3, r4] => (i < ρ.length ∧ j < ρ.length ∧ l < ρ.length ∧ m < ρ.length) ∧ ok (keepR ρ r1) fun o1 => ok (keepR ρ r2) fun o2 => ok (keepR ρ r3) fun o3 => ok (keepR ρ r4) fun o4 => K ((((ρ.set i (some o1)).set j (some o2)).set l (some o3)).set m (some o4))
  | _ => False
theorem gPar4_i {nx : Env → Prop} {rt : Res → Env → Prop} {ct : Env → Prop} (h : gs ρ fun _ rs ρ' => parK4 i j l m rs ρ' nx) : gPar4 i j l m gs { nx := nx, rt := rt, ct := ct } ρ := h
theorem parK4_i {K : Env → Prop} (h1 : i < ρ.length) (h2 : j < ρ.length) (h3 : l < ρ.length) (h4 : m < ρ.length) (e1 : keepR ρ r1 = some o1) (e2 : keepR ρ r2 = some o2) (e3 : keepR ρ r3 = some o3) (e4 : keepR ρ r4 = some o4) (h : K ((((ρ.set i (some o1)).set j (some o2)).set l (some o3)).set m (some o4))) : parK4 i j l m [r1, r2, r3, r4] ρ K := ⟨⟨h1, h2, h3, h4⟩, _, e1, _, e2, _, e3, _, e4, h⟩
end
end Dt

namespace Dt
open PySem PySem.Spec PyProof.Rows L2

/-! ### deeds -/
def wD (w : Str) (ns : List Int) : PyData := .tuple (.str w :: ns.map .int)
inductive Deed where
  | draw (a b : Int)
  | strike (a b : Int)
  | exch (a b c e : Int)
  deriving DecidableEq
def Deed.D : Deed → PyData
  | .draw a b => wD "draw" [a, b]
  | .strike a b => wD "strike" [a, b]
  | .exch a b c e => wD "exchange" [a, b, c, e]
/-- its people are people -/
def Deed.inM (m : Nat) : Deed → Prop
  | .draw a b => (0 ≤ a ∧ a < m) ∧ 0 ≤ b ∧ b < m
  | .strike a b => (0 ≤ a ∧ a < m) ∧ 0 ≤ b ∧ b < m
  | .exch a b c e => (0 ≤ a ∧ a < m) ∧ (0 ≤ b ∧ b < m) ∧ (0 ≤ c ∧ c < m) ∧ 0 ≤ e ∧ e < m
/-- its form is a deed's -/
def Deed.good (m : Nat) : Deed → Prop
  | .draw a b => 0 ≤ a ∧ a < b ∧ b < m
  | .strike a b => 0 ≤ a ∧ a < b ∧ b < m
  | .exch a b c e => ((0 ≤ a ∧ a < m) ∧ (0 ≤ b ∧ b < m) ∧ (0 ≤ c ∧ c < m) ∧ 0 ≤ e ∧ e < m) ∧ a ≠ b ∧ a ≠ c ∧ a ≠ e ∧ b ≠ c ∧ b ≠ e ∧ c ≠ e
theorem Deed.good.inM {m : Nat} : ∀ {d : Deed}, d.good m → d.inM m
  | .draw a b, ⟨h1, h2, h3⟩ => ⟨⟨h1, by omega⟩, by omega, h3⟩
  | .strike a b, ⟨h1, h2, h3⟩ => ⟨⟨h1, by omega⟩, by omega, h3⟩
  | .exch a b c e, h => h.1
def Deed.can (ls : List Ln) : Deed → Bool
  | .draw a b => decide (degI ls a = degI ls b) && !decide ((a, b) ∈ ls)
  | .strike a b => decide (degI ls a = degI ls b) && decide ((a, b) ∈ ls)
  | .exch a b c e => (decide (lineOf a b ∈ ls) && decide (lineOf c e ∈ ls)) && (!decide (lineOf a c ∈ ls) && !decide (lineOf b e ∈ ls))
theorem Tl.wD {w : Str} {ns : List Int} (hw : w.cps.size ≤ 10) (hs : Signs w) (hl : ns.length ≤ 4) (hn : ∀ n ∈ ns, -1000000000000000000 ≤ n ∧ n ≤ 1000000000000000000) : Tl 2 15 (wD w ns) := by
  refine Tl.mono (Tl.tuple (TlA.cons (Tl.str hw hs) (TlA.all (n := 1) (c := 0) 4 (fun d hd => ?_) (by rw [List.length_map]; exact hl)))) (by omega) (by omega)
  obtain ⟨i, hi, rfl⟩ := List.mem_map.mp hd
  exact .intS (hn i hi).1 (hn i hi).2
theorem sg_draw : Signs (Str.ofString "draw") := Signs.lit _
theorem sg_strike : Signs (Str.ofString "strike") := Signs.lit _
theorem sg_exch : Signs (Str.ofString "exchange") := Signs.lit _
theorem Deed.tl {m : Nat} (hm : m ≤ 1000) : ∀ {d : Deed}, d.inM m → Tl 2 15 d.D
  | .draw a b, h => Tl.wD (by decide +kernel) sg_draw (by simp) (by unfold Deed.inM at h; simp; omega)
  | .strike a b, h => Tl.wD (by decide +kernel) sg_strike (by simp) (by unfold Deed.inM at h; simp; omega)
  | .exch a b c e, h => Tl.wD (by decide +kernel) sg_exch (by simp) (by unfold Deed.inM at h; simp; omega)
end Dt

namespace Dt
open PySem PySem.Spec PyProof.Rows L2

/-! ### words and truth values beside one another -/
theorem eq_lit {a b : String} {r : Bool} (h : decide (Str.ofString a = Str.ofString b) = r) : eqD false (.str (Str.ofString a)) (.str (Str.ofString b)) = some r := by
  rw [eq_s _ _ (Signs.lit a).ok (Signs.lit b).ok, ← h]
  congr 1
theorem ne_lit {a b : String} {r : Bool} (h : (!decide (Str.ofString a = Str.ofString b)) = r) : eqD true (.str (Str.ofString a)) (.str (Str.ofString b)) = some r := by
  rw [ne_s _ _ (Signs.lit a).ok (Signs.lit b).ok, ← h]
  congr 1
theorem eq_bb (x y : Bool) : eqD false (.bool x) (.bool y) = some (x == y) := by
  rw [eq_e (by rfl) (by rfl)]
  cases x <;> cases y <;> decide +kernel
end Dt

namespace Dt
open PySem PySem.Spec PyProof.Rows L2

/-! ### what anything is as a deed -/
theorem Deed.shaped : ∀ d : Deed, SeqAt.shaped d.D = true
  | .draw a b => by
    unfold SeqAt.shaped
    rw [Bool.and_eq_true]
    exact ⟨by show (PyData.canLay0 (.str (Str.ofString "draw")) && _) = true; rw [(Signs.lit "draw").ok]; rfl, rfl⟩
  | .strike a b => by
    unfold SeqAt.shaped
    rw [Bool.and_eq_true]
    exact ⟨by show (PyData.canLay0 (.str (Str.ofString "strike")) && _) = true; rw [(Signs.lit "strike").ok]; rfl, rfl⟩
  | .exch a b c e => by
    unfold SeqAt.shaped
    rw [Bool.and_eq_true]
    exact ⟨by show (PyData.canLay0 (.str (Str.ofString "exchange")) && _) = true; rw [(Signs.lit "exchange").ok]; rfl, rfl⟩
end Dt

namespace Dt
open PySem PySem.Spec PyProof.Rows L2

theorem gFrz_i {i : Nat} {ρ : Env} {o : OV} {Q : Bool → Res → Env → Prop} (e : ρ[i]? = some (some o)) (hd : o.isD = true) (hl : i < ρ.length) (h : Q false (.cl o.toD) (ρ.set i (some (.fr o.toD)))) : gFrz i ρ Q := by
  unfold gFrz
  rw [e]
  exact ⟨⟨hd, hl⟩, h⟩
/-! ### webs in a row; rows of deeds that can be done -/
def wb (w : Nat × List Ln) : PyData := webD w.1 w.2
end Dt

namespace Dt
open PySem PySem.Spec PyProof.Rows L2

/-! ### what a deed leads to -/
def Deed.gone : Deed → List Ln
  | .draw _ _ => []
  | .strike a b => [(a, b)]
  | .exch a b c e => [lineOf a b, lineOf c e]
def Deed.come : Deed → List Ln
  | .draw a b => [(a, b)]
  | .strike _ _ => []
  | .exch a b c e => [lineOf a c, lineOf b e]
def rawL (ls : List Ln) (d : Deed) : List Ln := (ls.filter fun p => !decide (p ∈ d.gone)) ++ d.come
def aftL (m : Nat) (ls : List Ln) (d : Deed) : List Ln := (allP m).filter fun p => decide (p ∈ rawL ls d)
def Deed.back : Deed → Deed
  | .draw a b => .strike a b
  | .strike a b => .draw a b
  | .exch a b c e => .exch a c b e
theorem Deed.good.back {m : Nat} : ∀ {d : Deed}, d.good m → d.back.good m
  | .draw _ _, h => h
  | .strike _ _, h => h
  | .exch a b c e, ⟨⟨h1, h2, h3, h4⟩, n1, n2, n3, n4, n5, n6⟩ => ⟨⟨h1, h3, h2, h4⟩, n2, n1, n3, fun z => n4 z.symm, n6, n5⟩
theorem aftL_web (m : Nat) (ls : List Ln) (d : Deed) : IsWeb m (aftL m ls d) := List.filter_sublist
theorem Deed.come_all {m : Nat} : ∀ {d : Deed}, d.good m → ∀ p ∈ d.come, p ∈ allP m
  | .draw a b, h, p, hp => by
    have hp : p ∈ [(a, b)] := hp
    rw [List.mem_singleton] at hp
    subst hp
    exact mem_allP_iff.mpr h
  | .strike _ _, _, p, hp => by cases hp
  | .exch a b c e, ⟨⟨h1, h2, h3, h4⟩, n1, n2, n3, n4, n5, n6⟩, p, hp => by
    have hp : p ∈ [lineOf a c, lineOf b e] := hp
    rcases List.mem_cons.mp hp with rfl | hp
    · exact lineOf_mem h1 h3 n2
    · rw [List.mem_singleton] at hp
      subst hp
      exact lineOf_mem h2 h4 n5
theorem mem_raw {ls : List Ln} {d : Deed} {p : Ln} : p ∈ rawL ls d ↔ (p ∈ ls ∧ p ∉ d.gone) ∨ p ∈ d.come := by
  unfold rawL
  rw [List.mem_append, List.mem_filter]
  simp
theorem mem_aft {m : Nat} {ls : List Ln} {d : Deed} (h : IsWeb m ls) (g : d.good m) {p : Ln} : p ∈ aftL m ls d ↔ p ∈ rawL ls d := by
  unfold aftL
  rw [List.mem_filter, decide_eq_true_eq]
  refine ⟨fun z => z.2, fun z => ⟨?_, z⟩⟩
  rcases mem_raw.mp z with z | z
  · exact List.Sublist.subset h z.1
  · exact d.come_all g p z
theorem lineOf_inj {a b c d : Int} (h : lineOf a b = lineOf c d) : (a = c ∧ b = d) ∨ (a = d ∧ b = c) := by
  rcases lineOf_eq h with ⟨h1, h2⟩ | ⟨h1, h2⟩
  · rcases lineOf_eq (p := lineOf c d) rfl with ⟨h3, h4⟩ | ⟨h3, h4⟩ <;> omega
  · rcases lineOf_eq (p := lineOf c d) rfl with ⟨h3, h4⟩ | ⟨h3, h4⟩ <;> omega
theorem can_draw {ls : List Ln} {a b : Int} : (Deed.draw a b).can ls = true ↔ degI ls a = degI ls b ∧ (a, b) ∉ ls := by
  show (decide _ && !decide _) = true ↔ _
  simp
theorem can_strike {ls : List Ln} {a b : Int} : (Deed.strike a b).can ls = true ↔ degI ls a = degI ls b ∧ (a, b) ∈ ls := by
  show (decide _ && decide _) = true ↔ _
  simp
theorem can_exch {ls : List Ln} {a b c e : Int} : (Deed.exch a b c e).can ls = true ↔ (lineOf a b ∈ ls ∧ lineOf c e ∈ ls) ∧ lineOf a c ∉ ls ∧ lineOf b e ∉ ls := by
  show ((decide _ && decide _) && (!decide _ && !decide _)) = true ↔ _
  simp
/-- what comes is new, what goes is there -/
theorem can_come {ls : List Ln} : ∀ {d : Deed}, d.can ls = true → ∀ p ∈ d.come, p ∉ ls
  | .draw a b, h, p, hp => by
    have hp : p ∈ [(a, b)] := hp
    rw [List.mem_singleton] at hp
    subst hp
    exact (can_draw.mp h).2
  | .strike _ _, _, p, hp => by cases hp
  | .exch a b c e, h, p, hp => by
    have hp : p ∈ [lineOf a c, lineOf b e] := hp
    rcases List.mem_cons.mp hp with rfl | hp
    · exact (can_exch.mp h).2.1
    · rw [List.mem_singleton] at hp
      subst hp
      exact (can_exch.mp h).2.2
theorem can_gone {ls : List Ln} : ∀ {d : Deed}, d.can ls = true → ∀ p ∈ d.gone, p ∈ ls
  | .draw a b, h, p, hp => by cases hp
  | .strike a b, h, p, hp => by
    have hp : p ∈ [(a, b)] := hp
    rw [List.mem_singleton] at hp
    subst hp
    exact (can_strike.mp h).2
  | .exch a b c e, h, p, hp => by
    have hp : p ∈ [lineOf a b, lineOf c e] := hp
    rcases List.mem_cons.mp hp with rfl | hp
    · exact (can_exch.mp h).1.1
    · rw [List.mem_singleton] at hp
      subst hp
      exact (can_exch.mp h).1.2
theorem back_gone : ∀ d : Deed, d.back.gone = d.come
  | .draw _ _ => rfl
  | .strike _ _ => rfl
  | .exch a b c e => rfl
theorem back_come : ∀ d : Deed, d.back.come = d.gone
  | .draw _ _ => rfl
  | .strike _ _ => rfl
  | .exch a b c e => rfl
theorem come_nodup {m : Nat} : ∀ {d : Deed}, d.good m → d.come.Nodup
  | .draw _ _, _ => by simp [Deed.come]
  | .strike _ _, _ => by simp [Deed.come]
  | .exch a b c e, ⟨_, n1, n2, n3, n4, n5, n6⟩ => by
    show [lineOf a c, lineOf b e].Nodup
    rw [List.nodup_cons]
    refine ⟨fun z => ?_, by simp⟩
    rw [List.mem_singleton] at z
    rcases lineOf_inj z with h | h
    · exact n1 h.1
    · exact n3 h.1
theorem raw_nodup {m : Nat} {ls : List Ln} {d : Deed} (h : IsWeb m ls) (g : d.good m) (c : d.can ls = true) : (rawL ls d).Nodup := by
  unfold rawL
  rw [List.nodup_append]
  refine ⟨h.nodup.sublist List.filter_sublist, come_nodup g, fun p hp q hq z => ?_⟩
  subst z
  exact can_come c p hq (List.mem_filter.mp hp).1
theorem aft_perm {m : Nat} {ls : List Ln} {d : Deed} (h : IsWeb m ls) (g : d.good m) (c : d.can ls = true) : (aftL m ls d).Perm (rawL ls d) :=
  (List.perm_ext_iff_of_nodup (aftL_web m ls d).nodup (raw_nodup h g c)).mpr fun _ => mem_aft h g
theorem aft_back {m : Nat} {ls : List Ln} {d : Deed} (h : IsWeb m ls) (g : d.good m) (c : d.can ls = true) : aftL m (aftL m ls d) d.back = ls := by
  refine web_ext (aftL_web _ _ _) h fun p _ => ?_
  rw [mem_aft (aftL_web m ls d) g.back, mem_raw, mem_aft h g, mem_raw, back_gone, back_come]
  have h1 := can_come c p
  have h2 := can_gone c p
  by_cases x1 : p ∈ d.come
  · have := h1 x1
    constructor
    · rintro (⟨_, z⟩ | z)
      · exact absurd x1 z
      · exact h2 z
    · exact fun z => absurd z this
  · by_cases x2 : p ∈ d.gone
    · exact ⟨fun _ => h2 x2, fun _ => .inr x2⟩
    · constructor
      · rintro (⟨z | z, _⟩ | z)
        · exact z.1
        · exact absurd z x1
        · exact absurd z x2
      · exact fun z => .inl ⟨.inl ⟨z, x2⟩, x1⟩
theorem degI_perm {l k : List Ln} (h : l.Perm k) (v : Int) : degI l v = degI k v := by
  unfold degI
  rw [h.countP_eq]
theorem deg_snoc (l : List Ln) (a b v : Int) : degI (l ++ [(a, b)]) v = degI l v + if a = v ∨ b = v then 1 else 0 := by
  unfold degI
  rw [List.countP_append, List.countP_singleton]
  by_cases h : a = v ∨ b = v
  · rw [if_pos h, if_pos (by simpa using h)]; omega
  · rw [if_neg h, if_neg (by simpa using h)]; omega
theorem raw_draw (ls : List Ln) (a b : Int) : rawL ls (.draw a b) = ls ++ [(a, b)] := by
  unfold rawL
  rw [show (Deed.draw a b).gone = [] from rfl, show (Deed.draw a b).come = [(a, b)] from rfl, List.filter_eq_self.mpr fun p _ => by simp]
theorem can_back {m : Nat} {ls : List Ln} : ∀ {d : Deed}, IsWeb m ls → d.good m → d.can ls = true → d.back.can (aftL m ls d) = true
  | .draw a b, h, g, c => by
    obtain ⟨c1, c2⟩ := can_draw.mp c
    refine can_strike.mpr ⟨?_, (mem_aft h g).mpr (mem_raw.mpr (.inr (List.mem_singleton.mpr rfl)))⟩
    have p := aft_perm h g c
    rw [raw_draw] at p
    rw [degI_perm p, degI_perm p, deg_snoc, deg_snoc, if_pos (.inl rfl), if_pos (.inr rfl), c1]
  | .strike a b, h, g, c => by
    obtain ⟨c1, c2⟩ := can_strike.mp c
    have n : (a, b) ∉ aftL m ls (.strike a b) := fun z => by
      rcases mem_raw.mp ((mem_aft h g).mp z) with z | z
      · exact z.2 (List.mem_singleton.mpr rfl)
      · cases z
    refine can_draw.mpr ⟨?_, n⟩
    have e := aft_back h g c
    have p : ls.Perm (aftL m ls (.strike a b) ++ [(a, b)]) := by
      rw [← raw_draw]
      refine (List.perm_ext_iff_of_nodup h.nodup ?_).mpr fun p => ?_
      · rw [raw_draw, List.nodup_append]
        refine ⟨(aftL_web _ _ _).nodup, by simp, fun p hp q hq z => ?_⟩
        rw [List.mem_singleton] at hq
        subst hq z
        exact n hp
      · rw [← mem_aft (aftL_web _ _ _) (show (Deed.draw a b).good m from g)]
        rw [show aftL m (aftL m ls (.strike a b)) (.draw a b) = ls from e]
    rw [degI_perm p, degI_perm p, deg_snoc, deg_snoc, if_pos (.inl rfl), if_pos (.inr rfl)] at c1
    omega
  | .exch a b c' e, h, g, c => by
    have hg := g
    obtain ⟨_, n1, n2, n3, n4, n5, n6⟩ := hg
    obtain ⟨⟨c1, c2⟩, c3, c4⟩ := can_exch.mp c
    refine can_exch.mpr ⟨⟨(mem_aft h g).mpr (mem_raw.mpr (.inr (by simp [Deed.come]))), (mem_aft h g).mpr (mem_raw.mpr (.inr (by simp [Deed.come])))⟩, fun z => ?_, fun z => ?_⟩
    · rcases mem_raw.mp ((mem_aft h g).mp z) with z | z
      · exact z.2 (by simp [Deed.gone])
      · have z : lineOf a b ∈ [lineOf a c', lineOf b e] := z
        rcases List.mem_cons.mp z with z | z
        · rw [z] at c1; exact c3 c1
        · rw [List.mem_singleton] at z; rw [z] at c1; exact c4 c1
    · rcases mem_raw.mp ((mem_aft h g).mp z) with z | z
      · exact z.2 (by simp [Deed.gone])
      · have z : lineOf c' e ∈ [lineOf a c', lineOf b e] := z
        rcases List.mem_cons.mp z with z | z
        · rw [z] at c2; exact c3 c2
        · rw [List.mem_singleton] at z; rw [z] at c2; exact c4 c2
/-- deeds one behind another -/
inductive Run (m : Nat) : List Ln → List Deed → List Ln → Prop where
  | nil (ls : List Ln) : Run m ls [] ls
  | cons {ls ls' : List Ln} {d : Deed} {ds : List Deed} : d.good m → d.can ls = true → Run m (aftL m ls d) ds ls' → Run m ls (d :: ds) ls'
theorem Run.snoc {m : Nat} {ls ls' : List Ln} {ds : List Deed} {d : Deed} (h : Run m ls ds ls') (g : d.good m) (c : d.can ls' = true) : Run m ls (ds ++ [d]) (aftL m ls' d) := by
  induction h with
  | nil => exact .cons g c (.nil _)
  | cons g1 c1 _ ih => exact .cons g1 c1 (ih c)
theorem Run.web {m : Nat} {ls ls' : List Ln} {ds : List Deed} (h : Run m ls ds ls') (w : IsWeb m ls) : IsWeb m ls' := by
  induction h with
  | nil => exact w
  | cons _ _ _ ih => exact ih (aftL_web _ _ _)
theorem Run.good {m : Nat} {ls ls' : List Ln} {ds : List Deed} (h : Run m ls ds ls') : ∀ d ∈ ds, d.good m := by
  induction h with
  | nil => exact fun _ h => nomatch h
  | cons g _ _ ih =>
    intro d hd
    rcases List.mem_cons.mp hd with rfl | hd
    · exact g
    · exact ih d hd
theorem Run.turn {m : Nat} {ls ls' : List Ln} {ds : List Deed} (h : Run m ls ds ls') (w : IsWeb m ls) : Run m ls' (ds.reverse.map Deed.back) ls := by
  induction h with
  | nil => exact .nil _
  | @cons ls ls' d ds g c r ih =>
    have i := ih (aftL_web _ _ _)
    rw [List.reverse_cons, List.map_append]
    have s := i.snoc g.back (can_back w g c)
    rw [aft_back w g c] at s
    exact s
theorem Run.last {m : Nat} {ls ls' : List Ln} {ds : List Deed} (h : Run m ls ds ls') (w : IsWeb m ls) : ∀ {d : Deed}, ds.getLast? = some d → d.back.can ls' = true := by
  induction h with
  | nil => intro d h; cases h
  | @cons ls ls' d ds g c r ih =>
    intro x hx
    cases ds with
    | nil =>
      cases r
      have hx : some d = some x := hx
      cases hx
      exact can_back w g c
    | cons y ys =>
      rw [List.getLast?_cons_cons] at hx
      exact ih (aftL_web _ _ _) hx
end Dt

namespace Dt
open PySem PySem.Spec PyProof.Rows L2

/-! ### a comprehension within a comprehension, the same name in both -/
def rest1 (ρ ρ2 : Env) (i : Nat) : Env := match ρ[i]? with
  | some (some (.fr d)) => ρ2.set i (some (.fr d))
  | _ => ρ2
def gLcR (i : Nat) (gi : DI) (t : DG) (tt : DT) (el : DE) : DE := fun ρ Q => gLc [i] gi t tt el ρ fun q r ρ2 => ∃ ds, r = .fr (.lst ds) ∧ Q false (.fr (.lst ds)) (rest1 ρ ρ2 i)
section
variable {X : Cx} {pv : Pins} {e : Expr} {i : Nat} {gi : DI} {t : DG} {tt : DT} {el : DE}
end
abbrev lcrK (i : Nat) (ρ : Env) (r : Res) (ρ2 : Env) (Q : Bool → Res → Env → Prop) : Prop := ∃ ds, r = .fr (.lst ds) ∧ Q false (.fr (.lst ds)) (rest1 ρ ρ2 i)
theorem gLcR_i {i : Nat} {gi : DI} {t : DG} {tt : DT} {el : DE} {ρ : Env} {Q : Bool → Res → Env → Prop} (h : gLc [i] gi t tt el ρ fun q r ρ2 => lcrK i ρ r ρ2 Q) : gLcR i gi t tt el ρ Q := h
theorem lcr_i {i : Nat} {ρ ρ2 ρ3 : Env} {ds : List PyData} {Q : Bool → Res → Env → Prop} (e : rest1 ρ ρ2 i = ρ3) (h : Q false (.fr (.lst ds)) ρ3) : lcrK i ρ (.fr (.lst ds)) ρ2 Q := ⟨ds, rfl, by rw [e]; exact h⟩
theorem min_i {q : Bool} {r : Res} {ρ : Env} {Q : Bool → Res → Env → Prop} {b : Bool} {x y : Int} (e : r.seq ρ = some (b, [.int x, .int y])) (h : Q q (.cl (.int (min x y))) ρ) : fnK (intsF minI) q [r] ρ Q := ⟨_, by
  unfold intsF
  show (r.seq ρ).bind _ = _
  rw [e]
  rfl, h⟩
theorem max_i {q : Bool} {r : Res} {ρ : Env} {Q : Bool → Res → Env → Prop} {b : Bool} {x y : Int} (e : r.seq ρ = some (b, [.int x, .int y])) (h : Q q (.cl (.int (max x y))) ρ) : fnK (intsF maxI) q [r] ρ Q := ⟨_, by
  unfold intsF
  show (r.seq ρ).bind _ = _
  rw [e]
  rfl, h⟩
end Dt

namespace Dt
open PySem PySem.Spec PyProof.Rows L2
theorem shaped_lnl (ls : List Ln) : SeqAt.shaped (.list (ls.map lnD)) = true := (flat_lns (n := 0) ls).shaped
theorem ni_lnl (ls : List Ln) (p : Ln) : inD true (lnD p) (.list (ls.map lnD)) = some (!decide (p ∈ ls)) := by rw [inL_e (flat_ln (n := 0) p).shaped (shaped_lnl ls), anyEq_lns]; rfl
end Dt

namespace Dt
open PySem PySem.Spec PyProof.Rows L2

/-! ### {..}[k] -/
def dAtF (r : Res) (k : Key) : Option Res := match r with
  | .fr (.dct kvs) => match kvs.lookup k with
    | some (.fr d) => some (.cl d)
    | _ => none
  | _ => none
def gDGetF (gd gk : DE) : DE := fun ρ Q => gSeq2 gd gk ρ fun q r1 r2 ρ2 => ok (r2.cln ρ2) fun d => ok (keyD d) fun k => ok (dAtF r1 k) fun res => Q q res ρ2
section
variable {X : Cx} {pv : Pins} {pos pos' tpos : Pos} {o i e : Expr} {gd gk gv : DE}
end
theorem dAtF_1 {k k1 : Key} {d : PyData} {r : List (Key × OV)} (h : decide (k = k1) = true) : dAtF (.fr (.dct ((k1, .fr d) :: r))) k = some (.cl d) := by
  have h : k = k1 := of_decide_eq_true h
  subst h
  unfold dAtF
  simp only [List.lookup_cons_self]
theorem dAtF_n {k k1 : Key} {o1 : OV} {res : Res} {r : List (Key × OV)} (h : decide (k = k1) = false) (h2 : dAtF (.fr (.dct r)) k = some res) : dAtF (.fr (.dct ((k1, o1) :: r))) k = some res := by
  have h : ¬ k = k1 := of_decide_eq_false h
  unfold dAtF at h2 ⊢
  simp only [List.lookup_cons]
  rw [show (k == k1) = false by simpa using h]
  exact h2
abbrev dgfK (q : Bool) (r1 r2 : Res) (ρ2 : Env) (Q : Bool → Res → Env → Prop) : Prop := ok (r2.cln ρ2) fun d => ok (keyD d) fun k => ok (dAtF r1 k) fun res => Q q res ρ2
theorem gDGetF_i {gd gk : DE} {ρ : Env} {Q : Bool → Res → Env → Prop} (h : gd ρ fun q1 r1 ρ1 => gk ρ1 fun q2 r2 ρ2 => (r1.deep = true → q2 = true) ∧ dgfK (q1 && q2) r1 r2 ρ2 Q) : gDGetF gd gk ρ Q := h
end Dt

namespace Dt
open PySem PySem.Spec PyProof.Rows L2

/-! ### t == (), t a tuple of anything -/
end Dt

namespace Dt
open PySem PySem.Spec PyProof.Rows L2

/-! ### a, b = a list -/
def tgLst (n : Nat) (gs : DGs) : DG := fun d ρ Q => match d with
  | .list ds => ds.length = n ∧ gs ds ρ Q
  | _ => False
section
variable {X : Cx} {pv : Pins} {pos : Pos}
end
theorem tgLst_i {n : Nat} {tgs : DGs} {ds : List PyData} {ρ : Env} {K : Env → Prop} (h1 : ds.length = n) (h : tgs ds ρ K) : tgLst n tgs (.list ds) ρ K := ⟨h1, h⟩
end Dt

namespace Dt
open PySem PySem.Spec PyProof.Rows L2

/-! ### deeds of the contrary web -/
theorem countP_split {α : Type} (A B : α → Bool) : ∀ l : List α, l.countP (fun u => A u && !B u) + l.countP (fun u => A u && B u) = l.countP A
  | [] => rfl
  | x :: l => by
    have ih := countP_split A B l
    rw [List.countP_cons, List.countP_cons, List.countP_cons]
    cases A x <;> cases B x <;> simp <;> omega
theorem deg_other {m : Nat} {ls : List Ln} (h : IsWeb m ls) {v : Int} (hv : 0 ≤ v ∧ v < m) : degI (otherL m ls) v + degI ls v = m - 1 := by
  rw [(otherL_web m ls).deg hv, h.deg hv]
  unfold nb
  have e : (rangeI 0 m).countP (fun u => decide (u ≠ v) && decide (lineOf u v ∈ otherL m ls)) = (rangeI 0 m).countP (fun u => decide (u ≠ v) && !decide (lineOf u v ∈ ls)) := List.countP_congr fun u hu => by
    have hu := mem_rangeI.mp hu
    by_cases e : u = v
    · simp [e]
    · have hm := lineOf_mem (m := m) (x := u) (y := v) (by omega) hv e
      simp [e, mem_otherL, hm]
  rw [e]
  have s := countP_split (fun u => decide (u ≠ v)) (fun u => decide (lineOf u v ∈ ls)) (rangeI 0 m)
  have o : (rangeI 0 m).countP (fun u => false || decide (u = v)) = (rangeI 0 m).countP (fun _ => false) + 1 := countP_one (A := fun _ => false) (rangeI_nodup 0 m) (mem_rangeI.mpr (by omega)) rfl
  have z : (rangeI 0 m).countP (fun u => decide (u ≠ v)) + (rangeI 0 m).countP (fun u => decide (u = v)) = m := by
    have s2 := countP_split (fun _ => true) (fun u => decide (u = v)) (rangeI 0 m)
    simp only [Bool.true_and] at s2
    have e3 : (rangeI 0 m).countP (fun u => !decide (u = v)) = (rangeI 0 m).countP (fun u => decide (u ≠ v)) := List.countP_congr fun u _ => by simp
    rw [e3] at s2
    rw [s2, List.countP_true, len_rangeI]
  simp only [Bool.false_or] at o
  have o2 : (rangeI 0 m).countP (fun _ : Int => false) = 0 := by simp
  omega
/-! ### the exchanges, each once -/
end Dt

namespace Dt
open PySem PySem.Spec PyProof.Rows L2

/-! ### the exchanges of the contrary web, sorted -/
end Dt

namespace Dt
open PySem PySem.Spec PyProof.Rows L2

/-! ### people called otherwise: ord tells who was there, pl where who is now -/
structure Perm2 (m : Nat) (ord pl : Int → Int) : Prop where
  o : ∀ v : Int, 0 ≤ v ∧ v < m → 0 ≤ ord v ∧ ord v < m
  p : ∀ v : Int, 0 ≤ v ∧ v < m → 0 ≤ pl v ∧ pl v < m
  op : ∀ v : Int, 0 ≤ v ∧ v < m → ord (pl v) = v
  po : ∀ v : Int, 0 ≤ v ∧ v < m → pl (ord v) = v
  perm : ((rangeI 0 m).map ord).Perm (rangeI 0 m)
theorem lineOf_two (a b : Int) : ((lineOf a b).1 = a ∧ (lineOf a b).2 = b) ∨ ((lineOf a b).1 = b ∧ (lineOf a b).2 = a) := lineOf_eq rfl
end Dt

namespace Dt
open PySem PySem.Spec PyProof.Rows L2

/-! ### deeds carried along -/
theorem Perm2.inj {m : Nat} {ord pl : Int → Int} (P : Perm2 m ord pl) {u v : Int} (hu : 0 ≤ u ∧ u < m) (hv : 0 ≤ v ∧ v < m) (ne : u ≠ v) : pl u ≠ pl v := fun z => ne (by rw [← P.op u hu, z, P.op v hv])
end Dt

namespace Dt
open PySem PySem.Spec PyProof.Rows L2

/-! ### an exchange written with the least person ahead -/
end Dt

namespace Dt
open PySem PySem.Spec PyProof.Rows L2

/-! ### a call without arguments -/
section
variable {X : Cx} {pv : Pins} {pos p : Pos} {k : Nat} {f : Addr} {fd : FuncData} {ps : List Str} {x : Str} {G : Spec} {n : Nat}
end
end Dt

namespace Dt
open PySem PySem.Spec PyProof.Rows L2 PySem.W

/-! ### min, max of a list or a tuple of tuples -/
section
variable {X : Cx}
end
section
variable {X : Cx} {pv : Pins} {pos : Pos} {es : List Expr} {ga : DA}
end
end Dt

namespace Dt
open PySem PySem.Spec PyProof.Rows L2

/-! ### people called otherwise: the order as a tuple -/
theorem map_getD {l : List Int} {m : Nat} (h : l.length = m) : (rangeI 0 m).map (fun v => l.getD v.toNat 0) = l := by
  apply List.ext_getElem
  · rw [List.length_map, len_rangeI, h]
  · intro i h1 h2
    have e : (rangeI 0 m)[i]? = some (0 + (i : Int)) := rangeI_getElem (by omega)
    have e2 : (rangeI 0 m)[i]'(by rw [len_rangeI]; omega) = (i : Int) := by
      rw [List.getElem?_eq_getElem (by rw [len_rangeI]; omega)] at e
      have := Option.some.inj e
      omega
    rw [List.getElem_map, e2]
    show l.getD (i : Int).toNat 0 = l[i]
    rw [Int.toNat_natCast, List.getD_eq_getElem?_getD, List.getElem?_eq_getElem h2]
    rfl
/-- an order, and who is where now -/
theorem Perm2.of {l : List Int} {m : Nat} (hp : l.Perm (rangeI 0 m)) : Perm2 m (fun v => l.getD v.toNat 0) (fun v => ((l.idxOf v : Nat) : Int)) := by
  have hl : l.length = m := by rw [hp.length_eq, len_rangeI]
  have nd : l.Nodup := hp.nodup_iff.mpr (rangeI_nodup 0 m)
  have at_ : ∀ i : Nat, i < m → l.getD i 0 ∈ l := fun i hi => by
    rw [List.getD_eq_getElem?_getD, List.getElem?_eq_getElem (by omega)]
    exact List.getElem_mem _
  refine ⟨fun v hv => ?_, fun v hv => ?_, fun v hv => ?_, fun v hv => ?_, by rw [map_getD hl]; exact hp⟩
  · have := mem_rangeI.mp (hp.mem_iff.mp (at_ v.toNat (by omega)))
    constructor <;> omega
  · have hm : v ∈ l := hp.mem_iff.mpr (mem_rangeI.mpr (by omega))
    have h := List.idxOf_lt_length_of_mem hm
    omega
  · have hm : v ∈ l := hp.mem_iff.mpr (mem_rangeI.mpr (by omega))
    have h := List.idxOf_lt_length_of_mem hm
    show l.getD ((l.idxOf v : Nat) : Int).toNat 0 = v
    rw [Int.toNat_natCast, List.getD_eq_getElem?_getD, List.getElem?_eq_getElem h]
    simp
  · show ((l.idxOf (l.getD v.toNat 0) : Nat) : Int) = v
    have hi : v.toNat < l.length := by omega
    rw [List.getD_eq_getElem?_getD, List.getElem?_eq_getElem hi]
    show ((l.idxOf l[v.toNat] : Nat) : Int) = v
    have e := List.Nodup.idxOf_getElem nd v.toNat hi
    rw [e]
    omega
end Dt

namespace Dt
open PySem PySem.Spec PyProof.Rows L2

/-! ### several clauses, each with its name -/
/-- one clause: its class, its name's slot, its suite -/
structure Clause where
  c : Value
  i : Nat
  ts : Addr → Value → Option Addr → TS
def Clause.ends (k : Clause) (D : Ends) : Ends := { nx := fun y z => D.nx (y.set k.i none) z, rt := D.rt, bk := fun y z => D.bk (y.set k.i none) z, ct := fun y z => D.ct (y.set k.i none) z }
def wishes (K : PySem.W.Frag) (Wo : WX) (D : Ends) : List Clause → WX
  | [] => Wo
  | k :: r => fun cls d σ H => ∃ b, PySem.W.exmOne K cls k.c = some b ∧ (b = true → ∀ a, H a = none → k.ts a cls d (k.ends D) (σ.set k.i (some (.ref a))) H) ∧ (b = false → wishes K Wo D r cls d σ H)
inductive Clauses (X : L2.Cx) : List ExceptHandler → List Clause → Prop
  | nil : Clauses X [] []
  | cons {x n : Str} {k : Clause} {s0 : Stmt} {su : List Stmt} {np pk : Pos} {hds : List ExceptHandler} {l : List Clause} (hi : X.N[k.i]? = some n) (hln : X.env.kindOf n = some .local) (hc : Names X x k.c)
      (hsu : ∀ (a : Addr) (oe : Obj) (cls : Value) (d : Option Addr) (pn : List (Addr × Obj)), Zc cls d oe → (∃ vs, oe.data = .fields vs) → PSs (X.suite a ((a, oe) :: pn)) (s0 :: su) (k.ts a cls d)) (r : Clauses X hds l) :
      Clauses X (.ExceptHandler (some (.Name x np)) (some n) (s0 :: su) pk :: hds) (k :: l)
section
variable {X : L2.Cx} {body : List Stmt} {hd0 : ExceptHandler} {hds : List ExceptHandler} {l : List Clause} {pos : Pos} {tb : WX → TS} {Wo : WX}
end
/-! ### try: .. except C as n: return [..] except C2 as n2: return [..] -/
/-- a clause as data: its class's name, its slot, its list -/
abbrev ClD := Str × Nat × List SI
def pick (x : Exc) : List ClD → Option (Nat × List SI)
  | [] => none
  | (nm, i, ks) :: r => if (x.cls == nm) = true then some (i, ks) else pick x r
def gTryN (known : List Str) (cs : List ClD) (gb : (Exc → Env → Prop) → DS) (XE : Exc → Env → Prop) : DS := fun D ρ =>
  gb (fun x ρ' => x.cls ∈ known ∧ match pick x cs with
    | some (i, ks) => i < ρ'.length ∧ ok (siD x.fs ks) fun ds => D.rt (.fr (.lst ds)) ρ'
    | none => XE x ρ') D ρ
/-- what a clause's suite wishes -/
def suT (T : Tbl) (nm : Str) (i : Nat) (ks : List SI) : Addr → Value → Option Addr → TS := fun a cls d D σ H =>
  ∃ xvs vs, cls = .ref (T.cx nm) ∧ σ[i]? = some (some (.ref a)) ∧ XdAt H d xvs ∧ siV xvs ks = some vs ∧ vs.length ≤ sizeLine ∧ ∀ p, H p = none → D.rt (.ref p) (upd H p (.lst vs))
inductive ClOk (X : L2.Cx) (T : Tbl) (known : List Str) : List ExceptHandler → List ClD → List Clause → Prop
  | nil : ClOk X T known [] [] []
  | cons {x n : Str} {c : Value} {i : Nat} {ks : List SI} {es : List Expr} {np lp rp pk : Pos} {hds : List ExceptHandler} {cs : List ClD} {l : List Clause} (hi : X.N[i]? = some n) (hln : X.env.kindOf n = some .local) (hc : Names X x c) (hks : ks.length ≤ 100)
      (hex : ∀ m ∈ known, PySem.W.exmOne X.K (.ref (T.cx m)) c = some (m == x))
      (hit : ∀ (a : Addr) (oe : Obj) (d : Option Addr) (pn : List (Addr × Obj)), Zc (.ref (T.cx x)) d oe → (∃ vs, oe.data = .fields vs) → SuA X i a oe d pn es ks) (r : ClOk X T known hds cs l) :
      ClOk X T known (.ExceptHandler (some (.Name x np)) (some n) [.Return (some (.List es lp)) rp] pk :: hds) ((x, i, ks) :: cs) (⟨c, i, suT T x i ks⟩ :: l)
theorem ClOk.clauses {X : L2.Cx} {T : Tbl} {known : List Str} {hds : List ExceptHandler} {cs : List ClD} {l : List Clause} (h : ClOk X T known hds cs l) : Clauses X hds l := by
  induction h with
  | nil => exact .nil
  | @cons x n c i ks es np lp rp pk hds cs l hi hln hc hks hex hit r ih =>
    refine .cons hi hln hc (fun a oe cls d pn hz hf => ⟨fun pins s σ H Q I h => ?_⟩) ih
    obtain ⟨xvs, vs, rfl, h1, h2, h3, h4, h5⟩ := h
    exact (pss_one (ps_ret (pe_lst (hit a oe d pn hz hf xvs vs h3)))).run pins s σ H Q I ⟨h1, h2, h4, h5⟩
section
variable {X : L2.Cx} {lv : List (Option V)} {T : Tbl} {XE : Exc → Env → Prop} {Wo : WX} {body : List Stmt} {hd0 : ExceptHandler} {hds : List ExceptHandler} {cs : List ClD} {l : List Clause} {pos : Pos} {known : List Str} {gb : (Exc → Env → Prop) → DS}
end
/-! ### going on -/
def tryN (known : List Str) (cs : List ClD) (D : DEnds) (XE : Exc → Env → Prop) (x : Exc) (ρ : Env) : Prop := x.cls ∈ known ∧ match pick x cs with
    | some (i, ks) => i < ρ.length ∧ ok (siD x.fs ks) fun ds => D.rt (.fr (.lst ds)) ρ
    | none => XE x ρ
section
variable {known : List Str} {cs : List ClD} {gb : (Exc → Env → Prop) → DS} {XE : Exc → Env → Prop} {D : DEnds} {ρ : Env}
theorem gTryN_i (h : gb (tryN known cs D XE) D ρ) : gTryN known cs gb XE D ρ := h
end
end Dt

namespace Dt
open PySem PySem.Spec PyProof.Rows L2

/-! ### a slot anew -/
theorem putAt_nil {ρ : Env} {i : Nat} {o o0 : OV} (h : ρ[i]? = some (some o0)) : putAt ρ i [] o = ρ.set i (some o) := by
  unfold putAt
  rw [h]
  cases o0 <;> rfl
end Dt

namespace Dt
open PySem PySem.Spec PyProof.Rows L2

/-! ### a jar, handed on alone: its far cells, its cells, its seal, a count that is at most n -/
abbrev jarK (b c : Addr) (s k : Int) : List (Key × V) := [(.inr "far", .ref b), (.inr "cells", .ref c), (.inr "seal", .int s), (.inr "count", .int k)]
def jarC (n : Nat) : Opq where
  R := fun H v cs => ∃ (a b c : Addr) (fs gs : List Int) (s k : Int), v = .ref a ∧ cs = [a, b, c] ∧ (a ≠ b ∧ a ≠ c ∧ b ≠ c) ∧ H a = some (.dK (jarK b c s k)) ∧ H b = some (.lst (fs.map V.int)) ∧ H c = some (.lst (gs.map V.int)) ∧ fs.length ≤ 1000 ∧ (0 < gs.length ∧ gs.length ≤ 1000) ∧ 0 ≤ k ∧ k ≤ n
  mono := fun {H H' v cs} ⟨a, b, c, fs, gs, s, k, h1, h2, h3, h4, h5, h6, h7⟩ kk => ⟨a, b, c, fs, gs, s, k, h1, h2, h3, (kk a (by rw [h2]; simp)).trans h4, (kk b (by rw [h2]; simp)).trans h5, (kk c (by rw [h2]; simp)).trans h6, h7⟩
  own := fun {H v cs} ⟨a, b, c, fs, gs, s, k, h1, h2, h3, h4, h5, h6, h7⟩ x hx => by
    rw [h2] at hx
    simp only [List.mem_cons, List.not_mem_nil, or_false] at hx
    rcases hx with rfl | rfl | rfl
    · exact .inr ⟨_, h4⟩
    · exact .inl ⟨_, h5⟩
    · exact .inl ⟨_, h6⟩
/-- a def that draws: each time the count is one more -/
def G_drawN (o : Nat → Opq) (pre : Nat → Int → Prop) : Spec := fun os Q => ∃ (n : Nat) (m : Int), os = [.opq (o n), .fr (.int m)] ∧ pre n m ∧ ∀ r : Int, 0 ≤ r → (r < m ∨ r = 0) → Q (.cl (.int r)) [some (.opq (o (n + 1))), none]
theorem opq_fnN {P : Program} {w : World} {K : Fg} {mg : Str → Option Value} {base : Heap} {x qual p1 p2 : Str} {st : Stmt} {f : Addr} {fd : FuncData} {N : List Str} {k : Nat} (Fu : Fun K x qual st f fd) (S : FnScope N [p1, p2] (defScope st)) (T : Tbl) (o : Nat → Opq) (pre : Nat → Int → Prop)
    (hwalk : ∀ (cdv : Value) (A : Around) (outer : List PySem.Env) (s : Shared) (H0 : Hp) (E : XK), Room k (A.deeper (envOfC qual (defScope st) s.heap.objs.size f cdv)) → A.guards = some [] →
      ∃ t, PSs (cxOf CX0 P w K mg base N qual (defScope st) f cdv A outer s H0 E) (defBody st) t ∧ ∀ (H : Hp) (v : V) (cs : List Addr) (n : Nat) (m : Int) (D : Ends), (o n).R H v cs → pre n m →
        (∀ (r : Int) (H' : Hp), 0 ≤ r → (r < m ∨ r = 0) → Ext H H' cs → (o (n + 1)).R H' v cs → D.rt (.int r) H') → t D (start N [v, .int m]) H) :
    FnG P w K mg base CX0 (k + 1) f fd [p1, p2] (spD K T 2 (G_drawN o pre)) :=
  Fun.okG Fu S spX_len fun cdv A outer s H vs Q E hr hgd hs => by
    obtain ⟨t, ht, hd⟩ := hwalk cdv A outer s H E hr hgd
    refine ⟨t, ht, ?_⟩
    obtain ⟨os, F, fps, Q0, X0, hn, S0, ⟨n, m, rfl, hpre, g⟩, k0, _⟩ := hs
    have lv : vs.length = 2 := by
      have := S0.len
      rw [List.length_map, List.length_map] at this
      exact this.symm
    obtain ⟨v, v2, rfl⟩ : ∃ v v2, vs = [v, v2] := by
      match vs, lv with
      | [v, v2], _ => exact ⟨v, v2, rfl⟩
    obtain ⟨u, hu, ro⟩ := S0.rep 0 _ rfl
    obtain ⟨u2, hu2, ro2⟩ := S0.rep 1 _ rfl
    have hu : some (some v) = some (some u) := hu
    have hu2 : some (some v2) = some (some u2) := hu2
    cases hu
    cases hu2
    have e2 : v2 = .int m := by
      cases ro2 with
      | fr z _ => cases z; rfl
    subst e2
    cases ro with
    | @opq _ _ cs fp hR hF hfp =>
      refine hd H v cs n m _ hR hpre fun r H' h0 h1 hx hR' => ?_
      have inH : ∀ c ∈ cs, H c ≠ none := fun c hc => by
        rcases (o n).own hR c hc with ⟨_, e⟩ | ⟨_, e⟩ <;> rw [e] <;> simp
      refine k0 (.cl (.int r)) [some (.opq (o (n + 1))), none] (.int r) H' F (setF fps 0 fun b => b ∈ cs) noA (g r h0 h1) ⟨fun c u e => ?_, rfl, fun i o' e => ?_, fun i j o1 o2 ne e1 e2 => ?_, fun i v e => ?_, S0.nt, ?_⟩ ⟨Same.refl F, fun c h1 h2 h3 => ?_⟩ ⟨.int r, fun _ z => z⟩
      · exact hx c u (S0.le c u e) fun z => by rw [hF c z] at e; cases e
      · match i, e with
        | 0, e =>
          have e : some (some (OV.opq (o (n + 1)))) = some (some o') := e
          cases e
          exact ⟨v, rfl, .opq hR' hF fun b => Iff.rfl⟩
        | 1, e =>
          have e : (some none : Option (Option OV)) = some (some o') := e
          cases e
        | i + 2, e => simp at e
      · have b1 : i = 0 := by
          match i, e1 with
          | 0, _ => rfl
          | 1, e =>
            have e : (some none : Option (Option OV)) = some (some o1) := e
            cases e
          | i + 2, e => simp at e
        have b2 : j = 0 := by
          match j, e2 with
          | 0, _ => rfl
          | 1, e =>
            have e : (some none : Option (Option OV)) = some (some o2) := e
            cases e
          | i + 2, e => simp at e
        omega
      · have e : ([] : List (Option V))[i]? = some (some v) := e
        simp at e
      · intro q hq
        obtain ⟨ps, w1, w2, w3⟩ := S0.tab q hq
        have n1 : q.1 ∉ cs := fun z => by
          rcases (o n).own hR _ z with ⟨_, e⟩ | ⟨_, e⟩ <;> rw [e] at w1 <;> cases w1
        refine ⟨ps, hx _ _ w1 n1, w2, fun pos cv e => ?_⟩
        obtain ⟨c, y1, y2⟩ := w3 pos cv e
        have n2 : c ∉ cs := fun z => by
          rcases (o n).own hR _ z with ⟨_, e⟩ | ⟨_, e⟩ <;> rw [e] at y2 <;> cases y2
        exact ⟨c, y1, hx _ _ y2 n2⟩
      · have nc : c ∉ cs := fun z => h3 ⟨0, _, rfl, (hfp c).mpr z⟩
        refine ⟨.inl ?_, h2, ?_⟩
        · cases z : H c with
          | none => exact absurd z h1
          | some u => rw [hx c u z nc]
        · rintro (⟨i, o', e, p⟩ | z)
          · match i, e with
            | 0, _ => exact nc p
            | 1, e =>
              have e : (some none : Option (Option OV)) = some (some o') := e
              cases e
            | i + 2, e => simp at e
          · exact z.elim
/-! ### {"far": far, ..}: a new jar, which takes the list far -/
def gJar (i : Nat) (kgs : List (Key × DE)) : DE := fun ρ Q => ∃ fs : List Int, ρ[i]? = some (some (.lst (fs.map .int))) ∧ fs.length ≤ 1000 ∧ gPairs kgs ρ fun ps ρ' => ∃ (gs : List Int) (s : Int), ps = [(.inr "cells", .fr (.lst (gs.map .int))), (.inr "seal", .cl (.int s)), (.inr "count", .cl (.int 0))] ∧ (0 < gs.length ∧ gs.length ≤ 1000) ∧
  ρ'[i]? = some (some (.lst (fs.map .int))) ∧ Q false (.fr (.opq (jarC 0))) (ρ'.set i none)
theorem dv_jar {X : L2.Cx} {pv : Pins} {i : Nat} {x : Str} {p1 p2 pos : Pos} {j1 : Nat} {ks : List (Option Expr)} {vs : List Expr} {kgs : List (Key × DE)} (hN : X.N[i]? = some x) (hv : Vis X.env.scope x) (h : PKs X pv ks vs kgs)
    (hd : (x == ("__debug__" : Str)) = false := by decide) (hcd : (x == ("__classdict__" : Str)) = false := by decide) (hall : (some (Expr.Constant (.str "far") j1 p1) :: ks).all (·.isSome) = true := by rfl) (hl : (some (Expr.Constant (.str "far") j1 p1) :: ks).length = (Expr.Name x p2 :: vs).length := by rfl) (h15 : (some (Expr.Constant (.str "far") j1 p1) :: ks).length ≤ 15 := by decide) :
    DEv X pv (.Dict (some (.Constant (.str "far") j1 p1) :: ks) (.Name x p2 :: vs) pos) (gJar i kgs) :=
  PE.to (pe_disp (pps_cons pe_str (pe_var hN hv hd hcd) h.pps) hall hl (by simp) h15) fun σ H Q ⟨ρ, F, fps, Q0, S, ex, ⟨fs, e0, lf, h⟩, k⟩ => fun p hp => by
    have nF : F p = none := by
      cases q : F p with
      | none => rfl
      | some o => have := S.le _ _ q; rw [hp] at this; cases this
    have no : ¬ own ρ fps p := fun z => (S.ow_out z).2.1 hp
    have S1 : Sta X.K pv F (upd H p (.dK [])) σ ρ fps := S.aside nF no (by rw [hp]; exact fun _ z => nomatch z) (by rw [hp]; exact fun _ z => nomatch z)
    obtain ⟨u0, hu0, _⟩ := S.rep i _ e0
    refine ⟨u0, hu0, pairs_lift S1 (ex.upd hp) h fun ps ρ' ws H' F' fps' f ⟨gs, s, ep, lg, e1, q0⟩ S' st er => ?_⟩
    subst ep
    obtain ⟨g1, g2, g3⟩ := st.fr p (by rw [upd_same]; simp) nF no
    have hp' : H' p = some (.dK []) := (g1.eq (by rw [upd_same]; exact fun _ z => nomatch z)).trans upd_same
    have nf : ¬ f p := fun z => g3 (.inr z)
    have nw : ¬ own ρ' fps' p := fun z => g3 (.inl z)
    obtain ⟨⟨k1, w1⟩, ⟨k2, w2⟩, ⟨k3, w3⟩, rfl⟩ : ∃ a b c : Key × V, ws = [a, b, c] := by
      match ws, er with
      | [a, b, c], _ => exact ⟨a, b, c, rfl⟩
      | [], z => exact z.elim
      | [(_, _)], z => exact (z.2.choose_spec.choose_spec.2.1).elim
      | [(_, _), (_, _)], z =>
        obtain ⟨_, _, _, _, z, _⟩ := z
        obtain ⟨_, _, _, _, z, _⟩ := z
        exact z.elim
      | (_, _) :: (_, _) :: (_, _) :: (_, _) :: _, z =>
        obtain ⟨_, _, _, _, z, _⟩ := z
        obtain ⟨_, _, _, _, z, _⟩ := z
        obtain ⟨_, _, _, _, z, _⟩ := z
        exact z.elim
    obtain ⟨rfl, f1, f1', r1, t1, d1, ef1⟩ := er
    obtain ⟨rfl, f2, f2', r2, t2, d2, ef2⟩ := t1
    obtain ⟨rfl, f3, f3', r3, t3, d3, ef3⟩ := t2
    have hs2 : w2 = .int s := by obtain ⟨z, _⟩ := r2; cases z; rfl
    have hs3 : w3 = .int 0 := by obtain ⟨z, _⟩ := r3; cases z; rfl
    subst hs2 hs3
    obtain ⟨u1, hu1, ru⟩ := S'.rep i _ e1
    have eu : u1 = u0 := by
      rw [hu0] at hu1
      cases hu1
      rfl
    subst eu
    obtain ⟨ro, dj⟩ := r1
    cases ro with
    | @lst c cw cds cfp hc nFc rc hfc =>
      have ecw := reps_ints rc
      subst ecw
      cases ru with
      | @lst b bw bds bfp hb nFb rb hfb =>
        have ebw := reps_ints rb
        subst ebw
        have hff : ∀ x, f x ↔ x = c := fun x => by
          constructor
          · intro z
            rcases (ef1 x).mp z with z | z
            · exact (hfc x).mp z
            · rcases (ef2 x).mp z with z | z
              · exact (r2.2 x z).elim
              · rcases (ef3 x).mp z with z | z
                · exact (r3.2 x z).elim
                · exact (t3 x z).elim
          · intro z
            exact (ef1 x).mpr (.inl ((hfc x).mpr z))
        have ob : own ρ' fps' b := ⟨i, _, e1, (hfb b).mpr rfl⟩
        have hpb : p ≠ b := fun z => nw (by rw [z]; exact ob)
        have hpc : p ≠ c := fun z => nf ((hff p).mpr z)
        have hbc : b ≠ c := fun z => dj c ((hfc c).mpr rfl) (by rw [← z]; exact ob)
        refine ⟨hp', jarK b c s 0, rfl, by simp, ?_⟩
        rw [mergeK_nd _ [] (by rfl) fun q _ => rfl, List.nil_append]
        have S2 : Sta X.K pv F' (upd H' p (.dK (jarK b c s 0))) σ ρ' fps' := S'.aside g2 nw (by rw [hp']; exact fun _ z => nomatch z) (by rw [hp']; exact fun _ z => nomatch z)
        have back : ∀ (j : Nat) (o : OV), (ρ'.set i none)[j]? = some (some o) → ρ'[j]? = some (some o) ∧ j ≠ i := fun j o e => by
          by_cases z : j = i
          · subst z
            have hlt : j < ρ'.length := (List.getElem?_eq_some_iff.mp e1).1
            rw [List.getElem?_set_self hlt] at e
            cases e
          · rw [List.getElem?_set_ne (Ne.symm z)] at e
            exact ⟨e, z⟩
        have S3 : Sta X.K pv F' (upd H' p (.dK (jarK b c s 0))) σ (ρ'.set i none) fps' := S2.wk (List.length_set ..) fun j o e => (back j o e).1
        have own3 : ∀ x, own (ρ'.set i none) fps' x → own ρ' fps' x ∧ x ≠ b := fun x ⟨j, o, e, pf⟩ => by
          obtain ⟨e', ne⟩ := back j o e
          refine ⟨⟨j, o, e', pf⟩, fun z => ?_⟩
          exact S'.dis j i _ _ ne e' e1 x pf ((hfb x).mpr z)
        have st2 : Step F H (own ρ fps) F' H' (orA (own ρ' fps') f) := ⟨st.le, fun a h1 h2 h3 => by
          have ne : a ≠ p := fun z => by subst z; exact h1 hp
          obtain ⟨r1, r2, r3⟩ := st.fr a (by rw [upd_ne ne]; exact h1) h2 h3
          rw [upd_ne ne] at r1
          exact ⟨r1, r2, r3⟩⟩
        refine k false _ (ρ'.set i none) (.ref p) _ F' fps' (fun x => x ∈ [p, b, c]) q0 S3 ⟨st2.le, fun a h1 h2 h3 => ?_⟩ ⟨.opq (cs := [p, b, c]) ⟨p, b, c, fs, gs, s, 0, rfl, rfl, ⟨hpb, hpc, hbc⟩, upd_same, by rw [upd_ne (Ne.symm hpb)]; exact hb, by rw [upd_ne (Ne.symm hpc)]; exact hc, lf, lg, by omega, by omega⟩ (fun x hx => ?_) (fun x => Iff.rfl), fun x z w => ?_⟩ fun z => by cases z
        · have ne : a ≠ p := fun z => by subst z; exact h1 hp
          obtain ⟨r1, r2, r3⟩ := st2.fr a h1 h2 h3
          refine ⟨by rw [upd_ne ne]; exact r1, r2, ?_⟩
          rintro (z | z)
          · exact r3 (.inl (own3 a z).1)
          · simp only [List.mem_cons, List.not_mem_nil, or_false] at z
            rcases z with z | z | z
            · exact ne z
            · exact r3 (.inl (by rw [z]; exact ob))
            · exact r3 (.inr ((hff a).mpr z))
        · simp only [List.mem_cons, List.not_mem_nil, or_false] at hx
          rcases hx with rfl | rfl | rfl
          · exact g2
          · exact nFb
          · exact nFc
        · obtain ⟨w', wb⟩ := own3 x w
          have z : x ∈ [p, b, c] := z
          simp only [List.mem_cons, List.not_mem_nil, or_false] at z
          rcases z with z | z | z
          · exact nw (by rw [← z]; exact w')
          · exact wb z
          · exact dj x ((hfc x).mpr z) w'
/-! ### for the walk of a draw -/
theorem dg_of {H : Hp} {a : Addr} {kvs : List (Key × V)} {k : Key} {w : V} (h : H a = some (.dK kvs)) (hl : kvs.lookup k = some w) : DGet H a (kV k) (some w) := .inl ⟨kvs, k, .inl h, rfl, by rw [valV_lookup (α := Unit)]; exact hl.symm⟩
theorem ints_dpN {K : Fg} {H : Hp} : ∀ gs : List Int, DpAll K H (gs.map V.int) (gs.map PyData.int)
  | [] => .nil
  | g :: gs => .cons (.int g) (ints_dpN gs)
end Dt

namespace Dt
open PySem PySem.Spec PyProof.Rows L2

/-! ### odd sets: what is wrong first with anything as one -/
def setWrong (m : Int) (ns : List Int) : PyData :=
  if (m - (ns.length : Nat)) % 2 = 1 then .str (Str.ofString "parity") else if ns.sum % 2 = 1 then .str (Str.ofString "sum") else if ns.head? = some 0 ∧ ns.getLast? = some (m - 1) then .str (Str.ofString "ends") else .none
def setE (m : Int) : PyData → PyData
  | .tuple ds => match intsOf ds with
    | some ns => if risD m (-1) ds = true then setWrong m ns else .str (Str.ofString "form")
    | none => .str (Str.ofString "form")
  | _ => .str (Str.ofString "form")
theorem setE_yes {m : Int} {ns : List Int} (h : risD m (-1) (ns.map .int) = true) : setE m (.tuple (ns.map .int)) = setWrong m ns := by
  show (match intsOf (ns.map PyData.int) with
    | some ns' => if risD m (-1) (ns.map .int) = true then setWrong m ns' else .str (Str.ofString "form")
    | none => .str (Str.ofString "form")) = _
  rw [intsOf_map]
  exact if_pos h
theorem setE_no {m : Int} {ds : List PyData} (h : risD m (-1) ds = false) : setE m (.tuple ds) = .str (Str.ofString "form") := by
  show (match intsOf ds with
    | some ns' => if risD m (-1) ds = true then setWrong m ns' else .str (Str.ofString "form")
    | none => .str (Str.ofString "form")) = _
  cases intsOf ds with
  | none => rfl
  | some ns => exact if_neg (by rw [h]; exact Bool.false_ne_true)
/-- no tuple longer than that -/
def smT (v : PyData) : Prop := ∀ ds, v = .tuple ds → ds.length ≤ 1000000
theorem last_at {d : PyData} {l : List PyData} : L2.atI (l ++ [d]) (-1) = some d := by
  unfold L2.atI L2.ixN
  rw [if_neg (by decide), if_pos (by rw [List.length_append, List.length_singleton]; omega)]
  show (l ++ [d])[_]? = _
  rw [show (-1 + (((l ++ [d]).length : Nat) : Int)).toNat = l.length by rw [List.length_append, List.length_singleton]; omega]
  simp
theorem last_ints {ns : List Int} (h : ns ≠ []) : ∃ i, L2.atI (ns.map PyData.int) (-1) = some (.int i) ∧ ns.getLast? = some i := by
  rcases List.eq_nil_or_concat ns with rfl | ⟨ms, i, rfl⟩
  · exact absurd rfl h
  · rw [List.concat_eq_append]
    refine ⟨i, ?_, by simp⟩
    rw [List.map_append]
    exact last_at
theorem head_ints {ns : List Int} (h : ns ≠ []) : ∃ i, L2.atI (ns.map PyData.int) 0 = some (.int i) ∧ ns.head? = some i := by
  cases ns with
  | nil => exact absurd rfl h
  | cons i r => exact ⟨i, atI_nat (by decide) rfl, rfl⟩
end Dt

namespace Dt
open PySem PySem.Spec PyProof.Rows L2

/-! ### the odd set of a row of numbers -/
def oddsL (m : Nat) (l : List Int) : List Int := (rangeI 0 m).filter fun d => decide ((l.count d : Int) % 2 = 1)
theorem mem_oddsL {m : Nat} {l : List Int} {d : Int} : d ∈ oddsL m l ↔ (0 ≤ d ∧ d < m) ∧ l.count d % 2 = 1 := by
  unfold oddsL
  rw [List.mem_filter, mem_rangeI, decide_eq_true_eq]
  constructor
  · rintro ⟨h1, h2⟩; exact ⟨by omega, by omega⟩
  · rintro ⟨h1, h2⟩; exact ⟨by omega, by omega⟩
theorem oddsL_lt (m : Nat) (l : List Int) : (oddsL m l).Pairwise (· < ·) := (rangeI_lt 0 m).sublist List.filter_sublist
theorem oddsL_len (m : Nat) (l : List Int) : (oddsL m l).length ≤ m := by
  have := List.length_filter_le (fun d => decide ((l.count d : Int) % 2 = 1)) (rangeI 0 m)
  rw [len_rangeI] at this
  exact this
/-! ### how many, and their sum -/
theorem sum_ind1 (a : Int) : ∀ m : Nat, ((rangeI 0 m).map fun v => if a = v then (1 : Int) else 0).sum = if 0 ≤ a ∧ a < m then 1 else 0
  | 0 => by rw [if_neg (by omega)]; rfl
  | m + 1 => by
    rw [rangeI_succ, List.map_append, List.sum_append, sum_ind1 a m]
    simp only [List.map_cons, List.map_nil, List.sum_cons, List.sum_nil]
    by_cases h : a = m
    · subst h; rw [if_neg (by omega), if_pos rfl, if_pos (by omega)]; rfl
    · rw [if_neg h]
      by_cases h2 : 0 ≤ a ∧ a < m
      · rw [if_pos h2, if_pos (by omega)]; rfl
      · rw [if_neg h2, if_neg (by omega)]; rfl
theorem sum_addF (f g : Int → Int) : ∀ l : List Int, (l.map fun v => f v + g v).sum = (l.map f).sum + (l.map g).sum
  | [] => rfl
  | v :: l => by simp only [List.map_cons, List.sum_cons, sum_addF f g l]; omega
theorem count_consI (a d : Int) (l : List Int) : (((a :: l).count d : Nat) : Int) = (l.count d : Nat) + if a = d then (1 : Int) else 0 := by
  rw [List.count_cons]
  by_cases h : a = d
  · subst h; simp
  · simp [h]
theorem sum_mul1 (a : Int) : ∀ m : Nat, ((rangeI 0 m).map fun v => v * if a = v then (1 : Int) else 0).sum = if 0 ≤ a ∧ a < m then a else 0
  | 0 => by rw [if_neg (by omega)]; rfl
  | m + 1 => by
    rw [rangeI_succ, List.map_append, List.sum_append, sum_mul1 a m]
    simp only [List.map_cons, List.map_nil, List.sum_cons, List.sum_nil]
    by_cases h : a = m
    · subst h; rw [if_neg (by omega), if_pos rfl, if_pos (by omega)]; simp
    · rw [if_neg h]
      by_cases h2 : 0 ≤ a ∧ a < m
      · rw [if_pos h2, if_pos (by omega)]; simp
      · rw [if_neg h2, if_neg (by omega)]; simp
theorem sum_counts (m : Nat) : ∀ {l : List Int}, (∀ d ∈ l, 0 ≤ d ∧ d < m) → ((rangeI 0 m).map fun v => ((l.count v : Nat) : Int)).sum = l.length ∧ ((rangeI 0 m).map fun v => v * ((l.count v : Nat) : Int)).sum = l.sum
  | [], _ => by
    have z : ∀ k : List Int, (k.map fun v => ((([] : List Int).count v : Nat) : Int)).sum = 0 ∧ (k.map fun v => v * ((([] : List Int).count v : Nat) : Int)).sum = 0 := fun k => by
      induction k with
      | nil => exact ⟨rfl, rfl⟩
      | cons a k ih => simp only [List.map_cons, List.sum_cons, ih.1, ih.2]; simp
    exact z _
  | a :: l, h => by
    obtain ⟨i1, i2⟩ := sum_counts m (l := l) fun d hd => h d (List.mem_cons_of_mem _ hd)
    have ha := h a List.mem_cons_self
    constructor
    · rw [show ((rangeI 0 m).map fun v => (((a :: l).count v : Nat) : Int)) = (rangeI 0 m).map fun v => ((l.count v : Nat) : Int) + if a = v then (1 : Int) else 0 from List.map_congr_left fun v _ => count_consI a v l, sum_addF, i1, sum_ind1, if_pos ha]
      simp
    · rw [show ((rangeI 0 m).map fun v => v * (((a :: l).count v : Nat) : Int)) = (rangeI 0 m).map fun v => v * ((l.count v : Nat) : Int) + v * if a = v then (1 : Int) else 0 from List.map_congr_left fun v _ => by rw [count_consI, Int.mul_add], sum_addF, i2, sum_mul1, if_pos ha, List.sum_cons]
      omega
theorem filt_par (c : Int → Nat) : ∀ k : List Int, (((k.filter fun v => decide ((c v : Int) % 2 = 1)).length : Nat) : Int) % 2 = (k.map fun v => (c v : Int)).sum % 2 ∧ (k.filter fun v => decide ((c v : Int) % 2 = 1)).sum % 2 = (k.map fun v => v * (c v : Int)).sum % 2
  | [] => ⟨rfl, rfl⟩
  | a :: k => by
    obtain ⟨i1, i2⟩ := filt_par c k
    rw [List.filter_cons, List.map_cons, List.map_cons, List.sum_cons, List.sum_cons]
    by_cases h : (c a : Int) % 2 = 1
    · rw [if_pos (decide_eq_true h), List.length_cons, List.sum_cons]
      refine ⟨by omega, ?_⟩
      have e : a * (c a : Int) % 2 = a % 2 := by
        rw [Int.mul_emod, h, Int.mul_one]
        omega
      omega
    · rw [if_neg (by simpa using h)]
      refine ⟨by omega, ?_⟩
      have e : a * (c a : Int) % 2 = 0 := by
        rw [Int.mul_emod, show (c a : Int) % 2 = 0 by omega, Int.mul_zero]
        rfl
      omega
theorem odds_par {m : Nat} {l : List Int} (h : ∀ d ∈ l, 0 ≤ d ∧ d < m) : (((oddsL m l).length : Nat) : Int) % 2 = ((l.length : Nat) : Int) % 2 ∧ (oddsL m l).sum % 2 = l.sum % 2 := by
  obtain ⟨h1, h2⟩ := sum_counts m h
  obtain ⟨h3, h4⟩ := filt_par (fun v => l.count v) (rangeI 0 m)
  exact ⟨by rw [← h1]; exact h3, by rw [← h2]; exact h4⟩
/-! ### rows of webs -/
theorem lots_even {m : Nat} {ls : List Ln} (h : ∀ p, p ∈ ls → 0 ≤ p.1 ∧ p.1 < p.2 ∧ p.2 < m) : (lotsI m ls).sum % 2 = 0 := by
  have main : ∀ n : Nat, (lotsI m (ls.take n)).sum % 2 = 0 := by
    intro n
    induction n with
    | zero =>
      rw [List.take_zero, lotsI_nil]
      have : (List.replicate m (0 : Int)).sum = 0 := by
        induction m with
        | zero => rfl
        | succ m ih => simp
      rw [this]; rfl
    | succ n ih =>
      by_cases hn : n < ls.length
      · have e : ls.take (n + 1) = ls.take n ++ [ls[n]] := tk_snoc (List.getElem?_eq_getElem hn)
        obtain ⟨h1, h2, h3⟩ := h _ (List.getElem_mem hn)
        have e2 : lotsI m (ls.take (n + 1)) = (rangeI 0 m).map fun v => degI (ls.take n) v + ((if ls[n].1 = v then (1 : Int) else 0) + (if ls[n].2 = v then 1 else 0)) := by
          rw [e]
          unfold lotsI
          refine List.map_congr_left fun v _ => ?_
          rw [degI_snoc]
          by_cases q1 : ls[n].1 = v
          · rw [if_pos (.inl q1), if_pos q1, if_neg (by omega)]; omega
          · by_cases q2 : ls[n].2 = v
            · rw [if_pos (.inr q2), if_neg q1, if_pos q2]; omega
            · rw [if_neg (by rintro (z | z); exact q1 z; exact q2 z), if_neg q1, if_neg q2]; omega
        rw [e2, sum_addF, sum_addF, sum_ind1, sum_ind1, if_pos (by omega), if_pos (by omega)]
        have : ((rangeI 0 m).map (degI (ls.take n))).sum % 2 = 0 := ih
        omega
      · rw [List.take_of_length_le (by omega)] at ih ⊢
        exact ih
  have := main ls.length
  rw [List.take_length] at this
  exact this
theorem deg_lt {m : Nat} {ls : List Ln} (hw : IsWeb m ls) {v : Int} (hv : 0 ≤ v ∧ v < m) : 0 ≤ degI ls v ∧ degI ls v < m := by
  have h := deg_other hw hv
  have h1 : 0 ≤ degI ls v := by unfold degI; omega
  have h2 : 0 ≤ degI (otherL m ls) v := by unfold degI; omega
  omega
theorem lots_in {m : Nat} {ls : List Ln} (hw : IsWeb m ls) : ∀ d ∈ lotsI m ls, 0 ≤ d ∧ d < m := fun d hd => by
  unfold lotsI at hd
  obtain ⟨v, hv, rfl⟩ := List.mem_map.mp hd
  have := mem_rangeI.mp hv
  exact deg_lt hw (by omega)
theorem not_ends {m : Nat} {ls : List Ln} (hw : IsWeb m ls) (h2 : 2 ≤ m) : ¬ ((0 : Int) ∈ lotsI m ls ∧ (m : Int) - 1 ∈ lotsI m ls) := by
  rintro ⟨h0, h1⟩
  unfold lotsI at h0 h1
  obtain ⟨u, hu, eu⟩ := List.mem_map.mp h0
  obtain ⟨v, hv, ev⟩ := List.mem_map.mp h1
  have hu := mem_rangeI.mp hu
  have hv := mem_rangeI.mp hv
  have ne : u ≠ v := by rintro rfl; omega
  -- nobody but v is tied to v in the contrary web
  have o := deg_other hw (v := v) (by omega)
  have o0 : degI (otherL m ls) v = 0 := by omega
  have hl : lineOf u v ∈ allP m := lineOf_mem (by omega) (by omega) ne
  have c0 : ∀ {k : List Ln} {x : Int}, degI k x = 0 → ∀ p ∈ k, p.1 ≠ x ∧ p.2 ≠ x := fun {k x} e p hp => by
    unfold degI at e
    have := List.countP_eq_zero.mp (by omega : k.countP (fun p : Ln => decide (p.1 = x) || decide (p.2 = x)) = 0) p hp
    simpa using this
  by_cases z : lineOf u v ∈ ls
  · have := c0 eu _ z
    rcases lineOf_two u v with ⟨e1, e2⟩ | ⟨e1, e2⟩
    · exact this.1 e1
    · exact this.2 e2
  · have := c0 o0 _ (mem_otherL.mpr ⟨hl, z⟩)
    rcases lineOf_two u v with ⟨e1, e2⟩ | ⟨e1, e2⟩
    · exact this.2 e2
    · exact this.1 e1
end Dt

namespace Dt
open PySem PySem.Spec PyProof.Rows L2

/-! ### a person more: the lines that come -/
/-! ### the walk of a text -/
def signsD (x : Str) : List PyData := x.cps.toList.map fun c => .str ⟨#[c]⟩
def giTxt (g : DE) : DI := fun ρ Q => g ρ fun _ r ρ' => ∃ x : Str, r = .cl (.str x) ∧ Q (signsD x) ρ'
section
variable {X : Cx} {pv : Pins} {pos : Pos} {tg : Expr}
end
/-! ### int(text) -/
end Dt

namespace Dt
open PySem PySem.Spec PyProof.Rows L2 TL

/-! ### the texts of numbers -/
def num (n : Int) : Str := Str.ofString (toString n)
/-! ### the texts of lines -/
/-! ### the texts of webs -/
theorem Signs.tl {x : Str} (h : ∀ a ∈ TL.tl x, a < 0x110000) : Signs x := h
theorem joinL_len (s : List Nat) : ∀ L : List (List Nat), (joinL s L).length ≤ (L.map List.length).sum + L.length * s.length
  | [] => by simp [joinL]
  | [p] => by simp [joinL]
  | p :: q :: r => by
    have := joinL_len s (q :: r)
    show (p ++ (s ++ joinL s (q :: r))).length ≤ _
    rw [List.length_append, List.length_append, List.map_cons, List.sum_cons, List.length_cons (as := q :: r), Nat.add_mul]
    omega
theorem join_len (y : Str) (L : List Str) : (Txt.join y L).length ≤ (L.map (·.length)).sum + L.length * y.length := by
  rw [join_eq, len_tl, tl_join]
  refine Nat.le_trans (joinL_len _ _) ?_
  rw [List.map_map, List.length_map, len_tl y, show (L.map (List.length ∘ TL.tl)) = L.map (·.length) from List.map_congr_left fun x _ => (len_tl x).symm]
  exact Nat.le_refl _
end Dt

namespace Dt
open PySem PySem.Spec PyProof.Rows L2 TL
theorem giTxt_i {g : DE} {ρ : Env} {Q : List PyData → Env → Prop} (h : g ρ fun _ r ρ' => ∃ x : Str, r = .cl (.str x) ∧ Q (signsD x) ρ') : giTxt g ρ Q := h
theorem Signs.mem {x : Str} {c : Nat} (h : Signs x) (hc : c ∈ TL.tl x) : Signs ⟨#[c]⟩ := fun a ha => by
  have : a = c := by simpa using ha
  subst this
  exact h a hc
theorem spl_sub (S : List Nat) : ∀ (l acc : List Nat) (k : Nat), ∀ p ∈ spl S k acc l, ∀ a ∈ p, a ∈ acc ∨ a ∈ l
  | [], acc, k => fun p hp a ha => by
    rw [spl_nil] at hp
    rw [List.mem_singleton.mp hp] at ha
    exact .inl ha
  | c :: r, acc, 0 => fun p hp a ha => by
    cases hpre : pre S (c :: r) with
    | true =>
      rw [spl_hit hpre] at hp
      rcases List.mem_cons.mp hp with rfl | hp
      · exact .inl ha
      · rcases spl_sub S r [] _ p hp a ha with h | h
        · cases h
        · exact .inr (List.mem_cons_of_mem _ h)
    | false =>
      rw [spl_miss hpre] at hp
      rcases spl_sub S r _ _ p hp a ha with h | h
      · rcases List.mem_append.mp h with h | h
        · exact .inl h
        · rw [List.mem_singleton.mp h]
          exact .inr (List.mem_cons_self ..)
      · exact .inr (List.mem_cons_of_mem _ h)
  | c :: r, acc, k + 1 => fun p hp a ha => by
    have hp : p ∈ spl S k acc r := hp
    rcases spl_sub S r _ _ p hp a ha with h | h
    · exact .inl h
    · exact .inr (List.mem_cons_of_mem _ h)
theorem split_signs {x y : Str} (hx : Signs x) (hy : tl y ≠ []) (hk : y.cps.all (· < 256) = true) {p : Str} (hp : p ∈ Txt.split x y) : Signs p := fun a ha => by
  have e := split_spl x y hy (kind_ok hk)
  have : tl p ∈ spl (tl y) 0 [] (tl x) := by rw [← e]; exact List.mem_map_of_mem hp
  rcases spl_sub _ _ _ _ _ this a ha with h | h
  · cases h
  · exact hx a h
end Dt

namespace Dt
open PySem PySem.Spec PyProof.Rows L2 TL
end Dt

namespace Dt
open PySem PySem.Spec PyProof.Rows L2 TL
end Dt

namespace Dt
open PySem PySem.Spec PyProof.Rows L2

/-! ### d.get(k, x) of an owned dict -/
section
variable {X : Cx} {pv : Pins} {apos cpos : Pos} {o i e : Expr} {gd gk gx : DE}
end
end Dt

namespace Dt
open PySem PySem.Spec PyProof.Rows L2 TL

/-! ### str of an int or of a text -/
/-! ### the texts of deeds -/
def Deed.word : Deed → Str
  | .draw _ _ => "draw"
  | .strike _ _ => "strike"
  | .exch _ _ _ _ => "exchange"
def Deed.ps : Deed → List Int
  | .draw a b => [a, b]
  | .strike a b => [a, b]
  | .exch a b c e => [a, b, c, e]
def Deed.parts (d : Deed) : List Str := d.word :: d.ps.map num
@[irreducible] def deedS (d : Deed) : Str := Txt.join (" " : Str) d.parts
@[irreducible] def rowS (ds : List Deed) : Str := if ds = [] then ("none" : Str) else Txt.join ("; " : Str) (ds.map deedS)
def goods (ds : List Deed) : Prop := ∀ d ∈ ds, d.good 10
end Dt

namespace Dt
open PySem PySem.Spec PyProof.Rows L2 TL
end Dt

namespace Dt
open PySem PySem.Spec PyProof.Rows L2 TL
abbrev rowD (ds : List Deed) : PyData := .tuple (ds.map Deed.D)
/-- what has been seen: rows of deeds by their texts -/
def Seen (n : Nat) (kvs : List (Key × OV)) : Prop := ndK kvs = true ∧ kvs.length ≤ n ∧ ∀ p ∈ kvs, ∃ ds, goods ds ∧ p = (.inr (rowS ds), .fr (rowD ds))
theorem Seen.mono {n m : Nat} {kvs : List (Key × OV)} (h : Seen n kvs) (hm : n ≤ m) : Seen m kvs := ⟨h.1, Nat.le_trans h.2.1 hm, h.2.2⟩
end Dt

namespace Dt
open PySem PySem.Spec PyProof.Rows L2 TL
end Dt

namespace Dt
open PySem PySem.Spec PyProof.Rows L2 TL
/-! ### nothing wrong: a web -/
/-! ### any text read as a web -/
end Dt

namespace Dt
open PySem PySem.Spec PyProof.Rows L2 TL
theorem spl_cnt (S : List Nat) : ∀ (l acc : List Nat) (k : Nat), (spl S k acc l).length ≤ l.length + 1
  | [], acc, k => by rw [spl_nil]; simp
  | c :: r, acc, 0 => by
    cases hpre : pre S (c :: r) with
    | true =>
      rw [spl_hit hpre, List.length_cons, List.length_cons]
      have := spl_cnt S r [] (S.length - 1)
      omega
    | false =>
      rw [spl_miss hpre, List.length_cons]
      have := spl_cnt S r (acc ++ [c]) 0
      omega
  | c :: r, acc, k + 1 => by
    show (spl S k acc r).length ≤ _
    rw [List.length_cons]
    have := spl_cnt S r acc k
    omega
theorem split_cnt {x y : Str} (hy : tl y ≠ []) (hk : y.cps.all (· < 256) = true) : (Txt.split x y).length ≤ x.length + 1 := by
  have e := split_spl x y hy (kind_ok hk)
  have := congrArg List.length e
  rw [List.length_map] at this
  rw [this, len_tl]
  exact spl_cnt _ _ _ _
end Dt

namespace Dt
open PySem PySem.Spec PyProof.Rows L2 TL
/-! ### text[lo:hi] -/
/-- a piece of a text -/
@[irreducible] def cutT (z : Str) (lo hi : Option Int) : Str := Txt.slice z lo hi
def gSliceS (g : DE) (gl gh : DO) : DE := fun ρ Q => g ρ fun q r ρ1 => ∃ z, r = .cl (.str z) ∧ z.length ≤ sizeLine ∧ gl ρ1 fun q1 lo ρ2 => gh ρ2 fun q2 hi ρ3 => Q (q && (q1 && q2)) (.cl (.str (cutT z lo hi))) ρ3
section
variable {X : Cx} {pv : Pins} {pos p2 : Pos} {e : Expr} {g : DE} {gl gh : DO} {lo hi : Option Expr}
end
theorem gSliceS_i {g : DE} {gl gh : DO} {ρ : Env} {Q : Bool → Res → Env → Prop} (h : g ρ fun q r ρ1 => ∃ z, r = .cl (.str z) ∧ z.length ≤ sizeLine ∧ gl ρ1 fun q1 lo ρ2 => gh ρ2 fun q2 hi ρ3 => Q (q && (q1 && q2)) (.cl (.str (cutT z lo hi))) ρ3) : gSliceS g gl gh ρ Q := h
end Dt

namespace Dt
open PySem PySem.Spec PyProof.Rows L2 TL
end Dt

namespace Dt
open PySem PySem.Spec PyProof.Rows L2 TL
/-! ### text.replace(written, written), a token being out -/
section
variable {X : Cx} {pv : Pins} {e o : Expr} {es : List Expr} {g : DE} {ga : DA} {pos : Pos}
end
end Dt

namespace Dt
open PySem PySem.Spec PyProof.Rows L2 TL
/-! ### the parts of a split, all together -/
theorem spl_sum (S : List Nat) : ∀ (l acc : List Nat) (k : Nat), ((spl S k acc l).map List.length).sum ≤ acc.length + l.length
  | [], acc, k => by rw [spl_nil]; simp
  | c :: r, acc, 0 => by
    cases hpre : pre S (c :: r) with
    | true =>
      rw [spl_hit hpre, List.map_cons, List.sum_cons]
      have := spl_sum S r [] (S.length - 1)
      simp only [List.length_nil, List.length_cons] at *
      omega
    | false =>
      rw [spl_miss hpre]
      have := spl_sum S r (acc ++ [c]) 0
      simp only [List.length_append, List.length_cons, List.length_nil] at *
      omega
  | c :: r, acc, k + 1 => by
    show ((spl S k acc r).map List.length).sum ≤ _
    have := spl_sum S r acc k
    simp only [List.length_cons]
    omega
theorem split_sum {x y : Str} (hy : tl y ≠ []) (hk : y.cps.all (· < 256) = true) : ((Txt.split x y).map (·.length)).sum ≤ x.length := by
  have e := split_spl x y hy (kind_ok hk)
  have z := spl_sum (tl y) (tl x) [] 0
  rw [← e, List.map_map, show (Txt.split x y).map (List.length ∘ tl) = (Txt.split x y).map (·.length) from List.map_congr_left fun x _ => (len_tl x).symm] at z
  rw [len_tl x]
  simpa using z
/-- texts, of so much weight -/
structure Txs (c : Nat) (ps : List Str) : Prop where
  sg : ∀ p ∈ ps, Signs p
  sz : (ps.map (·.length)).sum + ps.length ≤ c
theorem Txs.len {c : Nat} {ps : List Str} (h : Txs c ps) : ps.length ≤ c := by have := h.sz; omega
theorem Txs.app {a b : Nat} {ps qs : List Str} (h : Txs a ps) (h2 : Txs b qs) : Txs (a + b) (ps ++ qs) :=
  ⟨fun p hp => (List.mem_append.mp hp).elim (h.sg p) (h2.sg p), by
    have := h.sz; have := h2.sz
    rw [List.map_append, List.sum_append, List.length_append]
    omega⟩
theorem sum_sub : ∀ {a b : List Nat}, a.Sublist b → a.sum ≤ b.sum
  | _, _, .slnil => Nat.le_refl _
  | _, _, .cons x h => by have := sum_sub h; simp only [List.sum_cons]; omega
  | _, _, .cons₂ x h => by have := sum_sub h; simp only [List.sum_cons]; omega
theorem Txs.sub {a : Nat} {ps qs : List Str} (h : Txs a ps) (s : qs.Sublist ps) : Txs a qs :=
  ⟨fun p hp => h.sg p (s.subset hp), by
    have := h.sz
    have := sum_sub (s.map (·.length))
    have := s.length_le
    omega⟩
theorem Txs.one {p : Str} (h : Signs p) {c : Nat} (hc : p.length ≤ c) : Txs (c + 1) [p] := ⟨fun q hq => by rw [List.mem_singleton.mp hq]; exact h, by simp; omega⟩
theorem Txs.split {x : Str} (h : Signs x) : Txs (2 * x.length + 1) (Txt.split x (" " : Str)) :=
  ⟨fun p hp => split_signs h (by decide +kernel) (by decide +kernel) hp, by
    have := split_sum (x := x) (y := (" " : Str)) (by decide +kernel) (by decide +kernel)
    have := split_cnt (x := x) (y := (" " : Str)) (by decide +kernel) (by decide +kernel)
    omega⟩
theorem Txs.mono {a b : Nat} {ps : List Str} (h : Txs a ps) (hb : a ≤ b) : Txs b ps := ⟨h.sg, Nat.le_trans h.sz hb⟩
theorem cutD_map {α β : Type} (f : α → β) (xs : List α) (lo hi : Option Int) : cutD (xs.map f) lo hi = (cutD xs lo hi).map f := by
  unfold cutD
  rw [List.length_map, List.map_take, List.map_drop]
theorem Txs.join {c : Nat} {ps : List Str} (h : Txs c ps) : Signs (Txt.join (" " : Str) ps) ∧ (Txt.join (" " : Str) ps).length ≤ c := by
  refine ⟨?_, ?_⟩
  · rw [join_eq]
    exact Signs.join h.sg (Signs.lit _)
  · have := join_len (" " : Str) ps
    rw [show (" " : Str).length = 1 by decide +kernel] at this
    have := h.sz
    omega
/-- a list of texts as data -/
def TxD (c : Nat) (ds : List PyData) : Prop := ∃ ps : List Str, ds = ps.map .str ∧ Txs c ps
theorem TxD.app {a b : Nat} {ps qs : List PyData} (h : TxD a ps) (h2 : TxD b qs) : TxD (a + b) (ps ++ qs) := by
  obtain ⟨x, rfl, hx⟩ := h
  obtain ⟨y, rfl, hy⟩ := h2
  exact ⟨x ++ y, List.map_append.symm, hx.app hy⟩
theorem TxD.cut {a : Nat} {ps : List PyData} (h : TxD a ps) (lo hi : Option Int) : TxD a (cutD ps lo hi) := by
  obtain ⟨x, rfl, hx⟩ := h
  exact ⟨_, cutD_map _ _ _ _, hx.sub (cutD_sub _ _ _)⟩
theorem TxD.len {c : Nat} {ps : List PyData} (h : TxD c ps) : ps.length ≤ c := by
  obtain ⟨x, rfl, hx⟩ := h
  rw [List.length_map]
  exact hx.len
/-! ### the law's own reading -/
/-! ### replace -/
end Dt

namespace Dt
open PySem PySem.Spec PyProof.Rows L2 TL
theorem TxD.mono {a b : Nat} {ds : List PyData} (h : TxD a ds) (hb : a ≤ b) : TxD b ds := by
  obtain ⟨p, e, hp⟩ := h
  exact ⟨p, e, hp.mono hb⟩
end Dt

namespace Dt
open PySem PySem.Spec PyProof.Rows L2 LamX
/-! ### a lambda of one parameter -/
/-- one parameter x, captured names, globals -/
structure LamP (sc scope : Scope) (x : Str) : Prop where
  kind : scope.kind = .function
  co : scope.isCoroutine = false
  gen : scope.isGenerator = false
  par : scope.names.lookup x = some .local
  nocell : ∀ y ∈ scope.names, y.2 ≠ .cell
  free : ∀ y ∈ scope.names, y.2 = .free → sc.names.lookup y.1 = some .cell ∨ sc.names.lookup y.1 = some .free
theorem LamP.has {X : Cx} {scope : Scope} {x : Str} (L : LamP X.env.scope scope x) (ok : X.Ok) : ∀ y ∈ scope.names, y.2 = .free → ∃ c, X.env.cells.lookup y.1 = some c :=
  fun y hy e => ok.has _ (L.free y hy e)
/-- the lambda at f: its object and its code object -/
def LamO (q : Str) (params : Arguments) (body : Expr) (scope : Scope) (cl : List (Str × Addr)) (f : Addr) (h : Heap) : Prop :=
  ∃ (pm : Value) (c' : Addr) (ctv : Value), h.get? f = some (PySem.W.kla_obj "<lambda>" q params body scope cl pm c' ctv) ∧ h.CodeRec (.ref c') q
theorem LamO.keeps {q : Str} {params : Arguments} {body : Expr} {scope : Scope} {cl : List (Str × Addr)} {f : Addr} {h h' : Heap} (L : LamO q params body scope cl f h) (k : ∀ b o, h.get? b = some o → h'.get? b = some o) : LamO q params body scope cl f h' := by
  obtain ⟨pm, c', ctv, h1, c, o, vs, t, e, h2, h3⟩ := L
  exact ⟨pm, c', ctv, k _ _ h1, c, o, vs, t, e, k _ _ h2, h3⟩
section
variable {X : Cx} {pins : List (Addr × Obj)} {σ : L2.St} {H : Hp} {s : Shared}
end
section
variable {P : Program} {w : World} {A : Around} {s : Shared}
variable {env : PySem.Env} {e e1 e2 : Expr} {h : Heap} {i j : Int} {pos p1 p2 : Pos}
end
end Dt

namespace Dt
open PySem PySem.Spec PyProof.Rows L2 LamX
section
variable {X : Cx} {σ : L2.St} {H : Hp} {scope : Scope} {x D : Str} {j : Nat} {d : Addr} {kvs : List (Key × V)} {i m : Int} {p1 p2 p3 p4 p5 p6 : Pos} {x1 : Nat}
end
/-- what the making of a lambda wants of the def that stands around -/
structure LamMk (X : Cx) (T : List (Addr × Str)) (params : Arguments) (scope : Scope) (x : Str) : Prop where
  at_ : ∃ c P, TabB X.base X.mg c P ∧ X.env.code = .ref c ∧ (P, X.env.qual ++ "<lambda>") ∈ T ∧ ∀ p ∈ T, p.1 = P → p.2 = X.env.qual ++ "<lambda>"
  dfl : defaultsOf params X.env = ([], [])
  sc : LamP X.env.scope scope x
  bind : ∀ (q : Str) (body : Expr) (cl : List (Str × Addr)) (pm cv ctv u : Value), bindArgs (PySem.W.kla_fn "<lambda>" q params body scope cl pm cv ctv) ⟨[u], []⟩ = pure [(x, u)]
section
variable {X : Cx} {T : List (Addr × Str)} {params : Arguments} {body : Expr} {scope : Scope} {x : Str}
end
end Dt

namespace Dt
open PySem PySem.Spec PyProof.Rows L2 LamX
/-- greatest first, the lesser person ahead where these are alike -/
def downLe (m : Int → Int) (p q : Int) : Bool := decide (-(m p) < -(m q) ∨ (-(m p) = -(m q) ∧ p ≤ q))
section
variable {K : Fg} {pv : Pins} {F H H2 : Hp} {σ : St} {ρ : Env} {fps : Fps}
/-- a table may have grown: all that is told stays -/
theorem Sta.kp (S : Sta K pv F H σ ρ fps) (k : ∀ b, H b ≠ none → Kp (H b) (H2 b)) (tb : Tabs pv.T.l H2) : Sta K pv F H2 σ ρ fps := by
  refine S.grow (Same.refl F) (fun a o e => ?_) S.nt tb fun a p => ?_
  · have e2 := S.le a o e
    rw [(k a (by rw [e2]; simp)).eq (fun ps z => S.nt a ps (by rw [e, ← e2]; exact z))]
    exact e2
  · obtain ⟨i, o, ho, hf⟩ := p
    obtain ⟨v, _, ro⟩ := S.rep i o ho
    obtain ⟨h1, h2, _⟩ := ro.out a hf
    exact ⟨(k a h2).eq (ro.noT a hf), h1⟩
theorem Step.kp (k : ∀ b, H b ≠ none → Kp (H b) (H2 b)) (ow : AS) : Step F H ow F H2 ow := ⟨Same.refl F, fun a h1 h2 h3 => ⟨k a h1, h2, h3⟩⟩
end
section
variable {X : Cx} {pv : Pins} {params : Arguments} {scope : Scope} {x D nm : Str} {j : Nat} {e : Expr} {g : DE} {p1 p2 p3 p4 p5 p6 p kpos lpos pos : Pos} {x1 : Nat}
end
end Dt

namespace Dt
open PySem PySem.Spec PyProof.Rows L2 LamX
/-- a tuple of two ints, at an address above lo -/
def PairAt (h : Heap) (k : Value) (a b : Int) (lo : Nat) : Prop := ∃ (p : Addr) (o : Obj) (vs : Array Value) (n : Nat) (t1 t2 : Tok), k = .ref p ∧ lo < p ∧ h.get? p = some o ∧ o.cls = .type "tuple" ∧ o.data = .seq vs n ∧ vs.toList = [.int a t1, .int b t2]
theorem PairAt.of {h : Heap} {k : Value} {a b : Int} {as : List Addr} (r : Reads h k (.tuple [.int a, .int b]) as) {lo : Nat} (hl : ∀ p, k = .ref p → lo < p) : PairAt h k a b lo := by
  cases r with
  | @tuple p o vs n xs as h1 h2 h3 h4 =>
    generalize e : vs.toList = l at h4
    cases h4 with
    | cons r1 s1 =>
      cases s1 with
      | cons r2 s2 =>
        cases s2
        cases r1
        cases r2
        exact ⟨p, o, vs, n, _, _, rfl, hl p rfl, h1, h2, h3, e⟩
theorem PairAt.reads {h : Heap} {k : Value} {a b : Int} {lo : Nat} (r : PairAt h k a b lo) : Reads h k (.tuple [.int a, .int b]) [] := by
  obtain ⟨p, o, vs, n, t1, t2, rfl, _, h1, h2, h3, h4⟩ := r
  have := Reads.tuple h1 h2 h3 (by rw [h4]; exact ReadsAll.cons (.int a t1) (ReadsAll.cons (.int b t2) .nil))
  simpa using this
theorem PairAt.keeps {h h' : Heap} {k : Value} {a b : Int} {lo : Nat} (r : PairAt h k a b lo) (kp : ∀ p o, lo < p → h.get? p = some o → h'.get? p = some o) : PairAt h' k a b lo := by
  obtain ⟨p, o, vs, n, t1, t2, e, hl, h1, h2⟩ := r
  exact ⟨p, o, vs, n, t1, t2, e, hl, kp _ _ hl h1, h2⟩
section
variable {X : Cx} {T : List (Addr × Str)} {params : Arguments} {body : Expr} {scope : Scope} {x : Str}
end
end Dt

namespace Dt
open PySem PySem.Spec PyProof.Rows L2 LamX
/-- a person with the greatest number, the least of these -/
def Topmost (is : List Int) (m : Int → Int) (i : Int) : Prop := i ∈ is ∧ ∀ k ∈ is, m k < m i ∨ (m k = m i ∧ i ≤ k)
section
variable {K : Fg} {F H : Hp}
end
section
variable {X : Cx} {pv : Pins} {params : Arguments} {scope : Scope} {x D nm : Str} {j : Nat} {e : Expr} {g : DE} {p1 p2 p3 p4 p5 p6 p kpos lpos pos : Pos} {x1 : Nat}
end
/-! ### [x for x in D if x not in (p, q) and D[x] > 0], D a dict -/
def isInt (q : PyData) (i : Int) : Bool := match q with
  | .int k => decide (k = i)
  | _ => false
/-- those others who may get lines -/
def othersL (is : List Int) (m : Int → Int) (p : Int) (q : PyData) : List Int := is.filter fun i => (!decide (i = p) && !isInt q i) && decide (0 < m i)
end Dt

namespace Dt
open PySem PySem.Spec PyProof.Rows L2 LamX
section
variable {X : Cx} {pv : Pins} {pos : Pos} {elt tg iter : Expr} {ifs : List Expr} {scope : Scope} {own : List (Str × Nat)} {jD jx jp jq : Nat}
end
end Dt

namespace Dt
open PySem PySem.Spec PyProof.Rows L2 LamX
/-! ### D != {} -/
/-! ### del D[k] -/
def dropKO (os : List (Key × OV)) (k : Key) : List (Key × OV) := os.filter fun kv => decide (kv.1 ≠ k)
theorem RepOs.drop {K : Fg} {F H : Hp} {k : Key} : ∀ {zs : List (Key × V)} {os : List (Key × OV)} {f : AS}, RepOs K F H zs os f → ∃ f' : AS, RepOs K F H (dropK zs k) (dropKO os k) f' ∧ ∀ b, f' b → f b
  | _, _, f, .nil h => ⟨f, .nil h, fun _ z => z⟩
  | _, _, f, .cons (k := k1) (v := v1) (o := o1) (kvs := kvs) (os := os) (fp1 := fp1) (fp2 := fp2) h r x e => by
    obtain ⟨f', g1, g2⟩ := RepOs.drop (k := k) r
    by_cases hk : k1 = k
    · refine ⟨f', ?_, fun b z => (e b).mpr (.inr (g2 b z))⟩
      have e1 : dropK ((k1, v1) :: kvs) k = dropK kvs k := by unfold dropK; rw [List.filter_cons, if_neg (by simpa using hk)]
      have e2 : dropKO ((k1, o1) :: os) k = dropKO os k := by unfold dropKO; rw [List.filter_cons, if_neg (by simpa using hk)]
      rw [e1, e2]
      exact g1
    · refine ⟨fun b => fp1 b ∨ f' b, ?_, fun b z => z.elim (fun z => (e b).mpr (.inl z)) fun z => (e b).mpr (.inr (g2 b z))⟩
      have e1 : dropK ((k1, v1) :: kvs) k = (k1, v1) :: dropK kvs k := by unfold dropK; rw [List.filter_cons, if_pos (by simpa using hk)]
      have e2 : dropKO ((k1, o1) :: os) k = (k1, o1) :: dropKO os k := by unfold dropKO; rw [List.filter_cons, if_pos (by simpa using hk)]
      rw [e1, e2]
      exact .cons h g1 (fun b p q => x b p (g2 b q)) fun b => Iff.rfl
section
variable {X : Cx} {pv : Pins} {o i : Expr} {gd gk : DE} {pos pos' tpos : Pos}
end
end Dt

namespace Dt
open PySem PySem.Spec PyProof.Rows L2 LamX
section
variable {X : Cx} {pv : Pins}
/-- a name, at the machine's level -/
theorem pn (i : Nat) {x : Str} {pos : Pos} (hN : X.N[i]? = some x := by rfl) (hv : Vis X.env.scope x := by first | exact Or.inl rfl | exact Or.inr (Or.inl rfl) | exact Or.inr (Or.inr rfl)) (hd : (x == ("__debug__" : Str)) = false := by decide) (hcd : (x == ("__classdict__" : Str)) = false := by decide) : PE X (.Name x pos) (tVar i) :=
  pe_var hN hv hd hcd
end
section
variable {P : Program} {w : World} {K : Fg} {mg : Str → Option Value} {base : Heap} {CX : CXT} {x qual : Str} {st : Stmt} {f c : Addr} {fd : FuncData} {N ps : List Str} {k : Nat} {sp : Sp}
end
end Dt

namespace Dt
open PySem PySem.Spec PyProof.Rows L2 LamX
/-! ### dict(enumerate(t)), t a tuple -/
section
variable {prog : Program} {w : World} {A : Around} {E : Value → Shared → Prop} {s : Shared}
end
end Dt

namespace Dt
open PySem PySem.Spec PyProof.Rows L2 LamX
section
variable {X : Cx}
end
section
variable {X : Cx} {pv : Pins} {e : Expr} {g : DE} {p pos p2 pos2 : Pos}
end
end Dt

namespace Dt
/-! ### webs by their numbers: laying off a person -/
/-- g: who is tied to whom among S, m: how many lines each has -/
structure Gr (g : Int → Int → Bool) (S : List Int) (m : Int → Int) : Prop where
  sym : ∀ a b, g a b = g b a
  irr : ∀ a, g a a = false
  deg : ∀ a ∈ S, ((S.countP (g a) : Nat) : Int) = m a
theorem countP_take {S : List Int} (hn : S.Nodup) {x : Int} (hx : x ∈ S) (f : Int → Bool) : S.countP f = (S.erase x).countP f + if f x = true then 1 else 0 := by
  rw [(List.perm_cons_erase hx).countP_eq, List.countP_cons]
theorem countP_same {S : List Int} {f h : Int → Bool} (e : ∀ z ∈ S, f z = h z) : S.countP f = S.countP h := by
  induction S with
  | nil => rfl
  | cons a S ih =>
    rw [List.countP_cons, List.countP_cons, ih fun z hz => e z (List.mem_cons_of_mem _ hz), e a (List.mem_cons_self ..)]
theorem countP_two {S : List Int} (hn : S.Nodup) {x y : Int} (hx : x ∈ S) (hy : y ∈ S) (hxy : x ≠ y) {f h : Int → Bool} (f1 : f x = false) (f2 : f y = true) (h1 : h x = true) (h2 : h y = false) (e : ∀ z ∈ S, z ≠ x → z ≠ y → h z = f z) : S.countP h = S.countP f := by
  have hy2 : y ∈ S.erase x := (List.mem_erase_of_ne (Ne.symm hxy)).mpr hy
  have hn2 : (S.erase x).Nodup := hn.erase x
  rw [countP_take hn hx h, countP_take hn hx f, countP_take hn2 hy2 h, countP_take hn2 hy2 f, f1, f2, h1, h2]
  have : ((S.erase x).erase y).countP h = ((S.erase x).erase y).countP f := countP_same fun z hz => by
    have z1 := (hn2.mem_erase_iff).mp hz
    have z2 := (hn.mem_erase_iff).mp z1.2
    exact e z z2.2 z2.1 z1.1
  rw [this]
  simp
theorem countP_le_imp {A : List Int} {f h : Int → Bool} (e : ∀ z ∈ A, f z = true → h z = true) : A.countP f ≤ A.countP h := List.countP_mono_left e
theorem exists_more {A : List Int} (hn : A.Nodup) {p : Int} (hp : p ∈ A) {fu ft : Int → Bool} (h1 : fu p = true) (h2 : ft p = false) (hc : A.countP fu ≤ A.countP ft) : ∃ w ∈ A, ft w = true ∧ fu w = false := by
  apply Classical.byContradiction
  intro hno
  have himp : ∀ z ∈ A.erase p, ft z = true → fu z = true := fun z hz hf => by
    cases hz2 : fu z with
    | true => rfl
    | false => exact absurd ⟨z, List.mem_of_mem_erase hz, hf, hz2⟩ hno
  have := countP_le_imp himp
  rw [countP_take hn hp fu, countP_take hn hp ft, h1, h2] at hc
  simp at hc
  omega
/-- the pair of x and y -/
def pr (x y a b : Int) : Bool := (decide (a = x) && decide (b = y)) || (decide (a = y) && decide (b = x))
theorem pr_sym (x y a b : Int) : pr x y a b = pr x y b a := by
  unfold pr
  rw [Bool.or_comm, Bool.and_comm, Bool.and_comm (decide (a = x))]
theorem pr_no {x y a b : Int} (h : ¬ ((a = x ∧ b = y) ∨ (a = y ∧ b = x))) : pr x y a b = false := by
  unfold pr
  rw [Bool.or_eq_false_iff, Bool.and_eq_false_iff, Bool.and_eq_false_iff]
  simp only [decide_eq_false_iff_not]
  refine ⟨?_, ?_⟩ <;> (apply Classical.byContradiction; intro z; apply h; omega)
theorem pr_yes {x y a b : Int} (h : (a = x ∧ b = y) ∨ (a = y ∧ b = x)) : pr x y a b = true := by
  unfold pr
  rcases h with ⟨rfl, rfl⟩ | ⟨rfl, rfl⟩ <;> simp
/-- p gets t for u, w gets u for t -/
def swp (g : Int → Int → Bool) (p t u w : Int) (a b : Int) : Bool := if (pr p t a b || pr u w a b) = true then true else if (pr p u a b || pr t w a b) = true then false else g a b
theorem swp_sym {g : Int → Int → Bool} (hs : ∀ a b, g a b = g b a) (p t u w a b : Int) : swp g p t u w a b = swp g p t u w b a := by
  unfold swp
  rw [pr_sym p t a b, pr_sym u w a b, pr_sym p u a b, pr_sym t w a b, hs a b]
theorem swp_on {g : Int → Int → Bool} {p t u w a b : Int} (h : (a = p ∧ b = t) ∨ (a = t ∧ b = p) ∨ (a = u ∧ b = w) ∨ (a = w ∧ b = u)) : swp g p t u w a b = true := by
  unfold swp
  rw [if_pos]
  rcases h with h | h | h | h
  · rw [pr_yes (.inl h)]; rfl
  · rw [pr_yes (.inr h)]; rfl
  · rw [pr_yes (x := u) (y := w) (.inl h), Bool.or_true]
  · rw [pr_yes (x := u) (y := w) (.inr h), Bool.or_true]
theorem swp_off {g : Int → Int → Bool} {p t u w a b : Int} (n : p ≠ t ∧ p ≠ u ∧ p ≠ w ∧ t ≠ u ∧ t ≠ w ∧ u ≠ w) (h : (a = p ∧ b = u) ∨ (a = u ∧ b = p) ∨ (a = t ∧ b = w) ∨ (a = w ∧ b = t)) : swp g p t u w a b = false := by
  unfold swp
  rw [if_neg, if_pos]
  · rcases h with h | h | h | h
    · rw [pr_yes (.inl h)]; rfl
    · rw [pr_yes (.inr h)]; rfl
    · rw [pr_yes (x := t) (y := w) (.inl h), Bool.or_true]
    · rw [pr_yes (x := t) (y := w) (.inr h), Bool.or_true]
  · rw [pr_no (by omega), pr_no (by omega)]
    simp
theorem swp_else {g : Int → Int → Bool} {p t u w a b : Int} (h : ¬ ((a = p ∧ b = t) ∨ (a = t ∧ b = p) ∨ (a = u ∧ b = w) ∨ (a = w ∧ b = u) ∨ (a = p ∧ b = u) ∨ (a = u ∧ b = p) ∨ (a = t ∧ b = w) ∨ (a = w ∧ b = t))) : swp g p t u w a b = g a b := by
  unfold swp
  rw [if_neg, if_neg]
  · rw [pr_no (by omega), pr_no (by omega)]; simp
  · rw [pr_no (by omega), pr_no (by omega)]; simp
theorem Gr.swap {g : Int → Int → Bool} {S : List Int} {m : Int → Int} (G : Gr g S m) (hn : S.Nodup) {p t u w : Int} (hp : p ∈ S) (ht : t ∈ S) (hu : u ∈ S) (hw : w ∈ S) (n : p ≠ t ∧ p ≠ u ∧ p ≠ w ∧ t ≠ u ∧ t ≠ w ∧ u ≠ w)
    (g1 : g p t = false) (g2 : g p u = true) (g3 : g t w = true) (g4 : g u w = false) : Gr (swp g p t u w) S m := by
  refine ⟨fun a b => swp_sym G.sym _ _ _ _ _ _, fun a => ?_, fun a ha => ?_⟩
  · rw [swp_else (by omega)]
    exact G.irr a
  · rw [← G.deg a ha]
    congr 1
    by_cases e1 : a = p
    · subst e1
      exact countP_two hn ht hu n.2.2.2.1 g1 g2 (swp_on (by omega)) (swp_off n (by omega)) fun z _ z1 z2 => swp_else (by omega)
    by_cases e2 : a = t
    · subst e2
      exact countP_two hn hp hw n.2.2.1 (by rw [G.sym]; exact g1) g3 (swp_on (by omega)) (swp_off n (by omega)) fun z _ z1 z2 => swp_else (by omega)
    by_cases e3 : a = u
    · subst e3
      exact countP_two hn hw hp (Ne.symm n.2.2.1) g4 (by rw [G.sym]; exact g2) (swp_on (by omega)) (swp_off n (by omega)) fun z _ z1 z2 => swp_else (by omega)
    by_cases e4 : a = w
    · subst e4
      exact countP_two hn hu ht (Ne.symm n.2.2.2.1) (by rw [G.sym]; exact g4) (by rw [G.sym]; exact g3) (swp_on (by omega)) (swp_off n (by omega)) fun z _ z1 z2 => swp_else (by omega)
    · exact countP_same fun z _ => swp_else (by omega)
/-- who has no fewer lines can be had for who has fewer -/
theorem Gr.trade {g : Int → Int → Bool} {S : List Int} {m : Int → Int} (G : Gr g S m) (hn : S.Nodup) {p t u : Int} (hp : p ∈ S) (ht : t ∈ S) (hu : u ∈ S) (n1 : p ≠ t) (n2 : p ≠ u) (n3 : t ≠ u) (g1 : g p t = false) (g2 : g p u = true) (hm : m u ≤ m t) :
    ∃ w ∈ S, (p ≠ t ∧ p ≠ u ∧ p ≠ w ∧ t ≠ u ∧ t ≠ w ∧ u ≠ w) ∧ g t w = true ∧ g u w = false := by
  have hu2 : u ∈ S.erase t := (List.mem_erase_of_ne (Ne.symm n3)).mpr hu
  have hn1 : (S.erase t).Nodup := hn.erase t
  have hn2 : ((S.erase t).erase u).Nodup := hn1.erase u
  have hp2 : p ∈ (S.erase t).erase u := (List.mem_erase_of_ne n2).mpr ((List.mem_erase_of_ne n1).mpr hp)
  have dt := G.deg t ht
  have du := G.deg u hu
  rw [countP_take hn ht, countP_take hn1 hu2, G.irr t] at dt
  rw [countP_take hn ht, countP_take hn1 hu2, G.irr u, G.sym u t] at du
  have hc : ((S.erase t).erase u).countP (g u) ≤ ((S.erase t).erase u).countP (g t) := by
    simp only [Bool.false_eq_true, if_false] at dt du
    split at dt <;> split at du <;> first | omega | contradiction
  obtain ⟨w, hw, w1, w2⟩ := exists_more hn2 hp2 (by rw [G.sym]; exact g2) (by rw [G.sym]; exact g1) hc
  have z1 := (hn1.mem_erase_iff).mp hw
  have z2 := (hn.mem_erase_iff).mp z1.2
  exact ⟨w, z2.2, ⟨n1, n2, (fun z => by rw [← z, G.sym, g1] at w1; cases w1), n3, Ne.symm z2.1, Ne.symm z1.1⟩, w1, w2⟩
end Dt

namespace Dt
/-! ### laying off somebody: there is a web just where there is one of those who are left -/
theorem nodup_sub_len {α : Type} [DecidableEq α] : ∀ {l k : List α}, l.Nodup → (∀ x ∈ l, x ∈ k) → l.length ≤ k.length
  | [], _, _, _ => Nat.zero_le _
  | a :: l, k, hn, h => by
    have hn2 := List.nodup_cons.mp hn
    have ha : a ∈ k := h a (List.mem_cons_self ..)
    have := nodup_sub_len (l := l) (k := k.erase a) hn2.2 fun x hx => (List.mem_erase_of_ne fun (e : x = a) => hn2.1 (by rw [← e]; exact hx)).mpr (h x (List.mem_cons_of_mem _ hx))
    rw [List.length_erase_of_mem ha] at this
    have := List.length_pos_of_mem ha
    rw [List.length_cons]
    omega
/-- who is left behind somebody who was laid off -/
theorem Gr.lay {S : List Int} {m : Int → Int} {g : Int → Int → Bool} (G : Gr g S m) (hn : S.Nodup) {p : Int} (hp : p ∈ S) {T : List Int} (hg : ∀ z ∈ S, g p z = decide (z ∈ T)) : Gr g (S.erase p) fun z => m z - if z ∈ T then 1 else 0 := by
  refine ⟨G.sym, G.irr, fun a ha => ?_⟩
  have h1 := List.mem_of_mem_erase ha
  have := G.deg a h1
  rw [countP_take hn hp, G.sym a p, hg a h1] at this
  by_cases hT : a ∈ T
  · simp [hT] at this ⊢; omega
  · simp [hT] at this ⊢; omega
/-- the least and the greatest -/
theorem Gr.bound {S : List Int} {m : Int → Int} {g : Int → Int → Bool} (G : Gr g S m) {a : Int} (ha : a ∈ S) : 0 ≤ m a ∧ m a < S.length := by
  rw [← G.deg a ha]
  refine ⟨Int.natCast_nonneg _, ?_⟩
  rw [List.countP_eq_length_filter]
  have h1 : (S.filter (g a)).length ≤ S.length := List.length_filter_le _ _
  have h2 : (S.filter (g a)).length ≠ S.length := fun e => by
    have := (List.length_filter_eq_length_iff.mp e) a ha
    rw [G.irr] at this
    cases this
  omega
/-- somebody's others: those who have lines left, but for one -/
theorem Gr.enough {S : List Int} {m : Int → Int} {g : Int → Int → Bool} (G : Gr g S m) {p : Int} (hp : p ∈ S) {f : Int → Bool} (h : ∀ z ∈ S, g p z = true → f z = true) : m p ≤ (S.filter f).length := by
  rw [← G.deg p hp, ← List.countP_eq_length_filter]
  have := List.countP_mono_left h
  omega
/-- some web of these people has these numbers, and no line between two who are to be kept apart -/
def Can (S : List Int) (m : Int → Int) (B : Int → Int → Bool) : Prop := ∃ g, Gr g S m ∧ ∀ a b, B a b = true → g a b = false
theorem Can.congr {S : List Int} {m m2 : Int → Int} {B : Int → Int → Bool} (h : Can S m B) (e : ∀ z ∈ S, m z = m2 z) : Can S m2 B := by
  obtain ⟨g, G, hb⟩ := h
  exact ⟨g, ⟨G.sym, G.irr, fun a ha => by rw [G.deg a ha, e a ha]⟩, hb⟩
end Dt

namespace Dt
open PySem PySem.Spec
/-! ### the ones with the greatest numbers, laid off -/
theorem downLe_tr (m : Int → Int) (a b c : Int) (h1 : downLe m a b = true) (h2 : downLe m b c = true) : downLe m a c = true := by
  unfold downLe at *
  simp only [decide_eq_true_eq] at *
  omega
theorem downLe_tt (m : Int → Int) (a b : Int) : (downLe m a b || downLe m b a) = true := by
  unfold downLe
  simp only [Bool.or_eq_true, decide_eq_true_eq]
  omega
theorem down_sorted (m : Int → Int) (l : List Int) : (l.mergeSort (downLe m)).Pairwise fun a b => downLe m a b = true := List.pairwise_mergeSort (downLe_tr m) (downLe_tt m) l
/-- who gets a person's lines -/
def topL (S : List Int) (m : Int → Int) (p : Int) (q : PyData) : List Int := ((othersL S m p q).mergeSort (downLe m)).take (m p).toNat
section
variable {S : List Int} {m : Int → Int} {p : Int} {q : PyData}
theorem mem_others {z : Int} : z ∈ othersL S m p q ↔ z ∈ S ∧ z ≠ p ∧ isInt q z = false ∧ 0 < m z := by
  unfold othersL
  rw [List.mem_filter]
  simp [and_assoc]
theorem others_nodup (hn : S.Nodup) : (othersL S m p q).Nodup := hn.filter _
theorem sort_nodup (hn : S.Nodup) : ((othersL S m p q).mergeSort (downLe m)).Nodup := (List.mergeSort_perm _ _).nodup_iff.mpr (others_nodup hn)
theorem topL_sub {t : Int} (h : t ∈ topL S m p q) : t ∈ S ∧ t ≠ p ∧ isInt q t = false ∧ 0 < m t := mem_others.mp ((List.mergeSort_perm _ _).mem_iff.mp (List.mem_of_mem_take h))
theorem topL_nodup (hn : S.Nodup) : (topL S m p q).Nodup := List.Nodup.sublist (List.take_sublist _ _) (sort_nodup hn)
theorem topL_len (h0 : 0 ≤ m p) (h : m p ≤ (othersL S m p q).length) : ((topL S m p q).length : Int) = m p := by
  unfold topL
  rw [List.length_take, List.length_mergeSort]
  omega
/-- what is left behind the laying off -/
def lessM (m : Int → Int) (T : List Int) : Int → Int := fun z => m z - if z ∈ T then 1 else 0
end
/-! ### the lines found on the way -/
/-- all is told of the lines that were found ahead: what is left of the row is m -/
structure LaidAt (row : Int → Int) (S : List Int) (m : Int → Int) (n : Nat) (F : List Ln) : Prop where
  sub : ∀ z ∈ S, 0 ≤ z ∧ z < n
  nd : S.Nodup
  ok : ∀ l ∈ F, l ∈ allP n
  fr : ∀ l ∈ F, ¬ (l.1 ∈ S ∧ l.2 ∈ S)
  fn : F.Nodup
  left : ∀ z : Int, z ∈ S → 0 ≤ m z ∧ (degI F z : Int) + m z = row z
  done : ∀ z : Int, 0 ≤ z ∧ z < n → z ∉ S → (degI F z : Int) = row z
end Dt

namespace Dt
open PySem PySem.Spec PyProof.Rows L2
/-! ### a dict of people's numbers -/
def atF (is : List Int) : Int → Int := fun v => is.getD v.toNat 0
/-! ### one who is laid off: the lines found, what is left -/
theorem lineOf_ends {p t a : Int} : (lineOf p t).1 = a ∨ (lineOf p t).2 = a ↔ p = a ∨ t = a := by
  unfold lineOf
  split
  · exact Iff.rfl
  · exact Or.comm
theorem lineOf_inj1 {p t t' : Int} (h : lineOf p t = lineOf p t') : t = t' := by
  unfold lineOf at h
  split at h <;> split at h <;> simp only [Prod.mk.injEq] at h <;> omega
theorem degI_append (A B : List Ln) (z : Int) : degI (A ++ B) z = degI A z + degI B z := by
  unfold degI
  rw [List.countP_append]
  simp
theorem degI_star {p : Int} : ∀ {T : List Int}, T.Nodup → (∀ t ∈ T, t ≠ p) → ∀ z : Int, degI (T.map (lineOf p)) z = if z = p then (T.length : Int) else if z ∈ T then 1 else 0
  | [], _, _, z => by simp [degI]
  | t :: T, hn, hp, z => by
    have h2 := List.nodup_cons.mp hn
    have ih := degI_star h2.2 (fun t ht => hp t (List.mem_cons_of_mem _ ht)) z
    have htp := hp t (List.mem_cons_self ..)
    rw [show List.map (lineOf p) (t :: T) = [lineOf p t] ++ T.map (lineOf p) from rfl, degI_append, ih]
    have : degI [lineOf p t] z = if p = z ∨ t = z then 1 else 0 := by
      unfold degI
      rw [List.countP_singleton]
      by_cases e : p = z ∨ t = z
      · rw [if_pos e, if_pos (by simpa using lineOf_ends.mpr e)]; rfl
      · rw [if_neg e, if_neg (by simpa using fun q => e (lineOf_ends.mp q))]; rfl
    rw [this]
    by_cases e1 : z = p
    · subst e1
      simp
      omega
    · by_cases e2 : z = t
      · subst e2
        simp [e1, h2.1]
      · simp [e1, e2, Ne.symm e1, Ne.symm e2]
theorem LaidAt.step {row : Int → Int} {S : List Int} {m : Int → Int} {n : Nat} {F : List Ln} (L : LaidAt row S m n F) {p : Int} (hp : p ∈ S) {q : PyData} (h : m p ≤ (othersL S m p q).length) :
    LaidAt row (S.erase p) (lessM m (topL S m p q)) n (F ++ (topL S m p q).map (lineOf p)) := by
  have hn := topL_nodup (m := m) (p := p) (q := q) L.nd
  have hl := topL_len (L.left p hp).1 h
  have star := degI_star hn fun t ht => (topL_sub ht).2.1
  refine ⟨fun z hz => L.sub z (List.mem_of_mem_erase hz), L.nd.erase p, fun l hl => ?_, fun l hl => ?_, ?_, fun z hz => ?_, fun z hz hzS => ?_⟩
  · rcases List.mem_append.mp hl with hl | hl
    · exact L.ok l hl
    · obtain ⟨t, ht, rfl⟩ := List.mem_map.mp hl
      exact lineOf_mem (L.sub p hp) (L.sub t (topL_sub ht).1) (Ne.symm (topL_sub ht).2.1)
  · rcases List.mem_append.mp hl with hl | hl
    · exact fun e => L.fr l hl ⟨List.mem_of_mem_erase e.1, List.mem_of_mem_erase e.2⟩
    · obtain ⟨t, ht, rfl⟩ := List.mem_map.mp hl
      have hx : p ∉ S.erase p := fun e => ((L.nd.mem_erase_iff).mp e).1 rfl
      rintro ⟨e1, e2⟩
      rcases (lineOf_ends (p := p) (t := t) (a := p)).mpr (.inl rfl) with e | e
      · rw [e] at e1
        exact hx e1
      · rw [e] at e2
        exact hx e2
  · refine List.nodup_append.mpr ⟨L.fn, ?_, fun a ha b hb e => ?_⟩
    · rw [List.nodup_iff_pairwise_ne, List.pairwise_map]
      exact hn.imp fun h e => h (lineOf_inj1 e)
    · subst e
      obtain ⟨t, ht, rfl⟩ := List.mem_map.mp hb
      refine L.fr _ ha ?_
      unfold lineOf
      split
      · exact ⟨hp, (topL_sub ht).1⟩
      · exact ⟨(topL_sub ht).1, hp⟩
  · have z1 := (L.nd.mem_erase_iff).mp hz
    have z2 := L.left z z1.2
    rw [degI_append, star z, if_neg z1.1]
    unfold lessM
    by_cases e : z ∈ topL S m p q
    · have := (topL_sub e).2.2.2
      rw [if_pos e]
      omega
    · rw [if_neg e]
      omega
  · rw [degI_append, star z]
    by_cases e : z = p
    · subst e
      rw [if_pos rfl, hl]
      exact (L.left z hp).2
    · have hzS2 : z ∉ S := fun q => hzS ((List.mem_erase_of_ne e).mpr q)
      rw [if_neg e, if_neg fun q => hzS2 (topL_sub q).1, L.done z hz hzS2]
      omega
theorem LaidAt.start {row : Int → Int} {n : Nat} (h : ∀ z : Int, 0 ≤ z ∧ z < n → 0 ≤ row z) : LaidAt row (rangeI 0 n) row n [] :=
  { sub := fun z hz => (by have := mem_rangeI.mp hz; omega)
    nd := rangeI_nodup 0 n
    ok := fun l hl => (nomatch hl)
    fr := fun l hl => (nomatch hl)
    fn := List.nodup_nil
    left := fun z hz => by
      have := mem_rangeI.mp hz
      exact ⟨h z (by omega), by simp [degI]⟩
    done := fun z hz hn => absurd (mem_rangeI.mpr (by omega)) hn }
/-- the web of the lines found -/
def webL (n : Nat) (F : List Ln) : List Ln := (allP n).filter fun l => decide (l ∈ F)
theorem LaidAt.web {row : Int → Int} {m : Int → Int} {n : Nat} {F : List Ln} (L : LaidAt row [] m n F) : IsWeb n (webL n F) ∧ (∀ l, l ∈ webL n F ↔ l ∈ F) ∧ ∀ z : Int, 0 ≤ z ∧ z < n → degI (webL n F) z = row z := by
  have hm : ∀ l, l ∈ webL n F ↔ l ∈ F := fun l => by
    unfold webL
    rw [List.mem_filter]
    exact ⟨fun h => by simpa using h.2, fun h => ⟨L.ok l h, by simpa using h⟩⟩
  refine ⟨isWeb_filter _ _, hm, fun z hz => ?_⟩
  rw [← L.done z hz (by simp)]
  exact degI_perm ((List.perm_ext_iff_of_nodup (isWeb_filter n _).nodup L.fn).mpr hm) z
end Dt

namespace Dt
open PySem PySem.Spec PyProof.Rows L2
/-! ### webs and who is tied to whom -/
def tieF (ls : List Ln) (a b : Int) : Bool := decide (a ≠ b) && decide (lineOf b a ∈ ls)
theorem Gr.of_web {n : Nat} {ls : List Ln} {row : Int → Int} (h : IsWeb n ls) (hd : ∀ z : Int, 0 ≤ z ∧ z < n → degI ls z = row z) : Gr (tieF ls) (rangeI 0 n) row := by
  refine ⟨fun a b => ?_, fun a => by simp [tieF], fun a ha => ?_⟩
  · unfold tieF
    rw [lineOf_comm, show decide (a ≠ b) = decide (b ≠ a) from decide_eq_decide.mpr ⟨Ne.symm, Ne.symm⟩]
  · have hr : 0 ≤ a ∧ a < n := by have := mem_rangeI.mp ha; omega
    rw [← hd a hr, h.deg hr]
    unfold nb
    congr 1
    exact countP_same fun z _ => by
      unfold tieF
      rw [show decide (a ≠ z) = decide (z ≠ a) from decide_eq_decide.mpr ⟨Ne.symm, Ne.symm⟩]
theorem Gr.to_web {n : Nat} {row : Int → Int} {g : Int → Int → Bool} (G : Gr g (rangeI 0 n) row) : ∃ ls, IsWeb n ls ∧ (∀ z : Int, 0 ≤ z ∧ z < n → degI ls z = row z) ∧ ∀ a b : Int, lineOf a b ∈ ls → g a b = true := by
  have key : ∀ a b : Int, lineOf a b ∈ (allP n).filter (fun l => g l.1 l.2) ↔ lineOf a b ∈ allP n ∧ g a b = true := fun a b => by
    rw [List.mem_filter]
    have : g (lineOf a b).1 (lineOf a b).2 = g a b := by
      unfold lineOf
      split
      · rfl
      · exact G.sym b a
    rw [this]
  refine ⟨(allP n).filter fun l => g l.1 l.2, isWeb_filter _ _, fun z hz => ?_, fun a b h => ((key a b).mp h).2⟩
  rw [(isWeb_filter n _).deg hz, ← G.deg z (mem_rangeI.mpr (by omega))]
  unfold nb
  congr 1
  exact countP_same fun u hu => by
    have hu2 : 0 ≤ u ∧ u < n := by have := mem_rangeI.mp hu; omega
    by_cases e : u = z
    · subst e; simp [G.irr]
    · rw [decide_eq_true (p := u ≠ z) e, Bool.true_and, G.sym z u]
      have := key u z
      cases hg : g u z with
      | true => exact decide_eq_true (this.mpr ⟨lineOf_mem hu2 hz e, hg⟩)
      | false => exact decide_eq_false fun q => by rw [hg] at this; cases (this.mp q).2
/-- a web with these numbers, without one line -/
def HasWeb (n : Nat) (row : Int → Int) (L : Ln → Bool) : Prop := ∃ ls, IsWeb n ls ∧ (∀ z : Int, 0 ≤ z ∧ z < n → degI ls z = row z) ∧ ∀ l ∈ ls, L l = false
def noL : Ln → Bool := fun _ => false
/-! ### one after another -/
theorem topmost_ex (m : Int → Int) : ∀ {S : List Int}, S ≠ [] → ∃ i, Topmost S m i
  | [a], _ => ⟨a, List.mem_cons_self .., fun k hk => by
    have : k = a := by simpa using hk
    subst this
    exact .inr ⟨rfl, Int.le_refl _⟩⟩
  | a :: b :: S, _ => by
    obtain ⟨i, hi, h⟩ := topmost_ex m (S := b :: S) (by simp)
    by_cases e : m i < m a ∨ (m i = m a ∧ a ≤ i)
    · refine ⟨a, List.mem_cons_self .., fun k hk => ?_⟩
      rcases List.mem_cons.mp hk with rfl | hk
      · exact .inr ⟨rfl, Int.le_refl _⟩
      · have := h k hk
        omega
    · refine ⟨i, List.mem_cons_of_mem _ hi, fun k hk => ?_⟩
      rcases List.mem_cons.mp hk with rfl | hk
      · omega
      · exact h k hk
end Dt

namespace Dt
open PySem PySem.Spec PyProof.Rows L2
theorem LaidAt.lines {row : Int → Int} {S : List Int} {m : Int → Int} {n : Nat} {F : List Ln} (L : LaidAt row S m n F) : F.length ≤ n * n :=
  Nat.le_trans (nodup_sub_len L.fn L.ok) (allP_len n)
end Dt

namespace Dt
open PySem PySem.Spec
/-! ### rows of webs: an even sum, and no lot that wants more than the others let -/
def sumF (S : List Int) (f : Int → Int) : Int := (S.map f).sum
theorem sumF_nil (f : Int → Int) : sumF [] f = 0 := rfl
theorem sumF_cons (a : Int) (S : List Int) (f : Int → Int) : sumF (a :: S) f = f a + sumF S f := by
  unfold sumF
  rw [List.map_cons, List.sum_cons]
theorem sumF_perm {S T : List Int} (h : S.Perm T) (f : Int → Int) : sumF S f = sumF T f := by
  induction h with
  | nil => rfl
  | cons x _ ih => rw [sumF_cons, sumF_cons, ih]
  | swap x y l => rw [sumF_cons, sumF_cons, sumF_cons, sumF_cons]; omega
  | trans _ _ a b => rw [a, b]
theorem sumF_take {S : List Int} {x : Int} (hx : x ∈ S) (f : Int → Int) : sumF S f = f x + sumF (S.erase x) f := by
  rw [sumF_perm (List.perm_cons_erase hx), sumF_cons]
theorem sumF_le {S : List Int} {f h : Int → Int} (e : ∀ z ∈ S, f z ≤ h z) : sumF S f ≤ sumF S h := by
  induction S with
  | nil => exact Int.le_refl _
  | cons a S ih =>
    rw [sumF_cons, sumF_cons]
    have := ih fun z hz => e z (List.mem_cons_of_mem _ hz)
    have := e a (List.mem_cons_self ..)
    omega
theorem sumF_eq {S : List Int} {f h : Int → Int} (e : ∀ z ∈ S, f z = h z) : sumF S f = sumF S h := by
  have := sumF_le (f := f) (h := h) fun z hz => Int.le_of_eq (e z hz)
  have := sumF_le (f := h) (h := f) fun z hz => Int.le_of_eq (e z hz).symm
  omega
theorem sumF_add (S : List Int) (f h : Int → Int) : sumF S (fun z => f z + h z) = sumF S f + sumF S h := by
  induction S with
  | nil => rfl
  | cons a S ih => rw [sumF_cons, sumF_cons, sumF_cons, ih]; omega
theorem sumF_const (S : List Int) (c : Int) : sumF S (fun _ => c) = S.length * c := by
  induction S with
  | nil => simp [sumF]
  | cons a S ih => rw [sumF_cons, ih, List.length_cons, Int.natCast_add, Int.add_mul]; omega
theorem sumF_count (S : List Int) (h : Int → Bool) : sumF S (fun z => if h z = true then 1 else 0) = S.countP h := by
  induction S with
  | nil => rfl
  | cons a S ih =>
    rw [sumF_cons, ih, List.countP_cons]
    split <;> simp <;> omega
theorem sumF_append (S T : List Int) (f : Int → Int) : sumF (S ++ T) f = sumF S f + sumF T f := by
  unfold sumF
  rw [List.map_append, List.sum_append]
/-- what some have together -/
def hiS (S : List Int) (m : Int → Int) (h : Int → Bool) : Int := sumF S fun z => if h z = true then m z else 0
/-- what the others let -/
def loS (S : List Int) (m : Int → Int) (h : Int → Bool) (k : Int) : Int := sumF S fun z => if h z = true then 0 else min (m z) k
/-- no lot has more than its own people and the others let it -/
def Fits (S : List Int) (m : Int → Int) : Prop := ∀ h : Int → Bool, hiS S m h ≤ (S.countP h : Int) * ((S.countP h : Int) - 1) + loS S m h (S.countP h)
def evenI (n : Int) : Prop := n % 2 = 0
theorem hiS_take {S : List Int} {x : Int} (hx : x ∈ S) (m : Int → Int) (h : Int → Bool) : hiS S m h = (if h x = true then m x else 0) + hiS (S.erase x) m h := sumF_take hx _
theorem loS_take {S : List Int} {x : Int} (hx : x ∈ S) (m : Int → Int) (h : Int → Bool) (k : Int) : loS S m h k = (if h x = true then 0 else min (m x) k) + loS (S.erase x) m h k := sumF_take hx _
theorem hiS_congr {S : List Int} {m m2 : Int → Int} {h h2 : Int → Bool} (e : ∀ z ∈ S, m z = m2 z ∧ h z = h2 z) : hiS S m h = hiS S m2 h2 := sumF_eq fun z hz => by rw [(e z hz).1, (e z hz).2]
theorem loS_congr {S : List Int} {m m2 : Int → Int} {h h2 : Int → Bool} {k : Int} (e : ∀ z ∈ S, m z = m2 z ∧ h z = h2 z) : loS S m h k = loS S m2 h2 k := sumF_eq fun z hz => by rw [(e z hz).1, (e z hz).2]
/-! #### a web's numbers fit -/
theorem sumF_comm {A B : List Int} (f : Int → Int → Int) : sumF A (fun a => sumF B fun b => f a b) = sumF B fun b => sumF A fun a => f a b := by
  induction A with
  | nil => rw [sumF_nil]; symm; rw [show (fun b : Int => sumF [] fun a => f a b) = fun _ => 0 from rfl, sumF_const]; simp
  | cons a A ih =>
    rw [sumF_cons, ih, ← sumF_add]
    exact sumF_eq fun z _ => by rw [sumF_cons]
theorem Gr.fits {S : List Int} {m : Int → Int} {g : Int → Int → Bool} (G : Gr g S m) (hn : S.Nodup) : Fits S m := by
  intro h
  -- 1 for each tied pair
  let e : Int → Int → Int := fun a b => if g a b = true then 1 else 0
  have hdeg : ∀ a ∈ S, m a = sumF S (e a) := fun a ha => by rw [← G.deg a ha, ← sumF_count]
  have h1 : hiS S m h = sumF S fun a => sumF S fun b => if h a = true then e a b else 0 := sumF_eq fun a ha => by
    split
    · exact hdeg a ha
    · rw [show (fun b : Int => (0 : Int)) = fun _ => 0 from rfl, sumF_const]; simp
  rw [h1, sumF_comm]
  -- b in the lot, or not
  have h2 : ∀ b ∈ S, (sumF S fun a => if h a = true then e a b else 0) ≤ (if h b = true then (S.countP h : Int) - 1 else 0) + (if h b = true then 0 else min (m b) (S.countP h)) := fun b hb => by
    have c1 : (sumF S fun a => if h a = true then e a b else 0) ≤ S.countP h := by
      rw [← sumF_count]
      exact sumF_le fun a _ => by
        show (if h a = true then e a b else 0) ≤ if h a = true then 1 else 0
        split
        · show (if g a b = true then (1 : Int) else 0) ≤ 1
          split <;> omega
        · exact Int.le_refl _
    by_cases hh : h b = true
    · rw [if_pos hh, if_pos hh]
      rw [sumF_take hb, if_pos hh]
      have e0 : e b b = 0 := by show (if g b b = true then (1 : Int) else 0) = 0; rw [G.irr]; rfl
      rw [e0]
      have : (sumF (S.erase b) fun a => if h a = true then e a b else 0) ≤ (S.erase b).countP h := by
        rw [← sumF_count]
        exact sumF_le fun a _ => by
          show (if h a = true then e a b else 0) ≤ if h a = true then 1 else 0
          split
          · show (if g a b = true then (1 : Int) else 0) ≤ 1
            split <;> omega
          · exact Int.le_refl _
      have h3 := countP_take hn hb h
      rw [if_pos hh] at h3
      omega
    · rw [if_neg hh, if_neg hh]
      have c2 : (sumF S fun a => if h a = true then e a b else 0) ≤ m b := by
        rw [hdeg b hb]
        exact sumF_le fun a _ => by
          show (if h a = true then e a b else 0) ≤ e b a
          have : e a b = e b a := by show (if g a b = true then (1 : Int) else 0) = if g b a = true then 1 else 0; rw [G.sym]
          rw [this]
          split
          · exact Int.le_refl _
          · show (0 : Int) ≤ if g b a = true then 1 else 0
            split <;> omega
      omega
  refine Int.le_trans (sumF_le h2) ?_
  rw [sumF_add]
  have h4 : (sumF S fun b => if h b = true then (S.countP h : Int) - 1 else 0) = (S.countP h : Int) * ((S.countP h : Int) - 1) := by
    rw [← sumF_count]
    generalize (sumF S fun z => if h z = true then (1 : Int) else 0) - 1 = c
    clear hdeg h1 h2 hn G
    induction S with
    | nil => simp [sumF]
    | cons a S ih =>
      rw [sumF_cons, sumF_cons, ih]
      split
      · rw [Int.add_mul]; omega
      · rw [Int.zero_add, Int.zero_add]
  rw [h4]
  exact Int.le_refl _
end Dt

namespace Dt
open PySem PySem.Spec
/-! ### what fits and is even is a web's -/
theorem sum_split (T : List Int) (m : Int → Int) (h : Int → Bool) (k : Int) : (sumF T fun z => if h z = true then 0 else min (m z) k) = (sumF T fun z => if h z = true then 0 else if k < m z then 1 else 0) * k + sumF T fun z => if h z = true then 0 else if k < m z then 0 else m z := by
  induction T with
  | nil => simp [sumF]
  | cons a T ih =>
    rw [sumF_cons, sumF_cons, sumF_cons, ih, Int.add_mul]
    split
    · omega
    · split
      · rw [Int.one_mul]; omega
      · rw [Int.zero_mul]; omega
/-- two people less by one -/
def less2 (m : Int → Int) (x y : Int) : Int → Int := fun z => if z = x ∨ z = y then m z - 1 else m z
/-- somebody with the greatest number, somebody with some: who have one less each fit still -/
theorem Fits.less {S : List Int} {m : Int → Int} (hn : S.Nodup) (F : Fits S m) (hev : evenI (sumF S m)) (h0 : ∀ z ∈ S, 0 ≤ m z) {x y : Int} (hx : x ∈ S) (hy : y ∈ S) (hxy : x ≠ y) (hmax : ∀ z ∈ S, m z ≤ m x) (hpos : 0 < m y) :
    Fits S (less2 m x y) := by
  intro h
  have hy2 : y ∈ S.erase x := (List.mem_erase_of_ne (Ne.symm hxy)).mpr hy
  have hn1 : (S.erase x).Nodup := hn.erase x
  let R := (S.erase x).erase y
  have hR : ∀ z ∈ R, z ∈ S ∧ z ≠ x ∧ z ≠ y := fun z hz => by
    have z1 := (hn1.mem_erase_iff).mp hz
    have z2 := (hn.mem_erase_iff).mp z1.2
    exact ⟨z2.2, z2.1, z1.1⟩
  have same : ∀ z ∈ R, less2 m x y z = m z := fun z hz => by
    have := hR z hz
    unfold less2
    rw [if_neg (by omega)]
  have lx : less2 m x y x = m x - 1 := by unfold less2; rw [if_pos (.inl rfl)]
  have ly : less2 m x y y = m y - 1 := by unfold less2; rw [if_pos (.inr rfl)]
  have F0 := F h
  generalize hk : (S.countP h : Int) = k at *
  have k0 : 0 ≤ k := by omega
  rw [hiS_take hx, hiS_take hy2, loS_take hx, loS_take hy2] at F0 ⊢
  rw [lx, ly, hiS_congr (m := less2 m x y) (m2 := m) (h2 := h) fun z hz => ⟨same z hz, rfl⟩, loS_congr (m := less2 m x y) (m2 := m) (h2 := h) fun z hz => ⟨same z hz, rfl⟩]
  have cnt : k = (if h x = true then 1 else 0) + ((if h y = true then 1 else 0) + (R.countP h : Int)) := by
    rw [← hk, countP_take hn hx, countP_take hn1 hy2]
    show (((R.countP h + _ + _ : Nat) : Int)) = _
    split <;> split <;> omega
  have hxx := hmax y hy
  have hi_le : hiS R m h ≤ (R.countP h : Int) * m x := by
    unfold hiS
    rw [← sumF_count]
    have : (sumF R fun z => if h z = true then (1 : Int) else 0) * m x = sumF R fun z => if h z = true then m x else 0 := by
      generalize m x = c
      generalize R = T
      induction T with
      | nil => simp [sumF]
      | cons a T ih =>
        rw [sumF_cons, sumF_cons, ← ih]
        split
        · rw [Int.add_mul]; omega
        · rw [Int.zero_add, Int.zero_add]
    rw [this]
    exact sumF_le fun z hz => by
      split
      · exact hmax z (hR z hz).1
      · exact Int.le_refl _
  have lo_nn : 0 ≤ loS R m h k := by
    have := sumF_le (S := R) (f := fun _ => 0) (h := fun z => if h z = true then 0 else min (m z) k) fun z hz => by
      split
      · exact Int.le_refl _
      · have := h0 z (hR z hz).1
        omega
    rw [sumF_const] at this
    unfold loS
    omega
  show _ + (_ + hiS R m h) ≤ _ + (_ + (_ + loS R m h k))
  replace F0 : _ + (_ + hiS R m h) ≤ _ + (_ + (_ + loS R m h k)) := F0
  by_cases hxh : h x = true
  · rw [if_pos hxh] at F0 ⊢
    rw [if_pos hxh] at F0 ⊢
    by_cases hyh : h y = true
    · rw [if_pos hyh] at F0 ⊢
      rw [if_pos hyh] at F0 ⊢
      omega
    · rw [if_neg hyh] at F0 ⊢
      rw [if_neg hyh] at F0 ⊢
      omega
  · rw [if_neg hxh] at F0 ⊢
    rw [if_neg hxh] at F0 ⊢
    by_cases hyh : h y = true
    · rw [if_pos hyh] at F0 ⊢
      rw [if_pos hyh] at F0 ⊢
      omega
    · rw [if_neg hyh] at F0 ⊢
      rw [if_neg hyh] at F0 ⊢
      rw [if_neg hxh, if_neg hyh] at cnt
      rw [show (R.countP h : Int) = k by omega] at hi_le
      -- both among the others
      by_cases c1 : m x ≤ k - 1
      · have : k * m x ≤ k * (k - 1) := Int.mul_le_mul_of_nonneg_left c1 k0
        have := h0 y hy
        have := h0 x hx
        omega
      by_cases c2 : m x = k
      · -- all have k at most
        have e1 : k * m x = k * (k - 1) + k := by rw [c2, Int.mul_sub, Int.mul_one]; omega
        have e2 : loS R m h k = sumF R fun z => if h z = true then 0 else m z := sumF_eq fun z hz => by
          have := hmax z (hR z hz).1
          split
          · rfl
          · omega
        have tot : sumF S m = m x + (m y + (hiS R m h + loS R m h k)) := by
          rw [sumF_take hx, sumF_take hy2, e2]
          unfold hiS
          rw [← sumF_add]
          congr 2
          exact sumF_eq fun z _ => by split <;> omega
        have ev : ∃ w, k * k + k = 2 * w := by
          have := Int.emod_two_eq k
          rcases this with z | z
          · exact ⟨(k / 2) * k + k / 2, by
              have hk2 : k = 2 * (k / 2) := by omega
              have : k * k = 2 * ((k / 2) * k) := by
                conv => lhs; lhs; rw [hk2]
                rw [Int.mul_assoc]
              omega⟩
          · exact ⟨((k + 1) / 2) * k, by
              have hk2 : k + 1 = 2 * ((k + 1) / 2) := by omega
              have : (k + 1) * k = 2 * (((k + 1) / 2) * k) := by
                conv => lhs; lhs; rw [hk2]
                rw [Int.mul_assoc]
              rw [Int.add_mul] at this
              omega⟩
        obtain ⟨w, hw⟩ := ev
        unfold evenI at hev
        rw [tot] at hev
        rw [Int.mul_sub, Int.mul_one] at e1 ⊢
        rw [c2] at e1 hi_le ⊢
        generalize k * k = kk at *
        omega
      · -- more than the lot and one more
        have hlt : k < m x := by omega
        by_cases c3 : k < m y
        · omega
        have F1 := F fun z => h z || decide (z = x)
        have hc1 : S.countP (fun z => h z || decide (z = x)) = S.countP h + 1 := countP_one hn hx (by simpa using hxh)
        rw [hc1] at F1
        rw [show ((S.countP h + 1 : Nat) : Int) = k + 1 by omega] at F1
        rw [hiS_take hx, hiS_take hy2, loS_take hx, loS_take hy2] at F1
        have hR2 : ∀ z ∈ R, m z = m z ∧ (h z || decide (z = x)) = h z := fun z hz => ⟨rfl, by simp [(hR z hz).2.1]⟩
        rw [hiS_congr (m2 := m) (h2 := h) hR2, loS_congr (m2 := m) (h2 := h) hR2] at F1
        have d1 : (h x || decide (x = x)) = true := by simp
        have d2 : ¬ (h y || decide (y = x)) = true := by simp [hyh, Ne.symm hxy]
        rw [if_pos d1, if_neg d2, if_pos d1, if_neg d2] at F1
        replace F1 : _ + (_ + hiS R m h) ≤ _ + (_ + (_ + loS R m h (k + 1))) := F1
        -- how many of the others have more than k
        let r : Int := sumF R fun z => if h z = true then 0 else if k < m z then 1 else 0
        let r0 : Int := sumF R fun z => if h z = true then 0 else if k < m z then 0 else m z
        have l1 : loS R m h (k + 1) = r + loS R m h k := by
          show _ = (sumF R _) + _
          unfold loS
          rw [← sumF_add]
          exact sumF_eq fun z _ => by split <;> (try split) <;> omega
        have l2 : loS R m h k = r * k + r0 := by
          exact sum_split R m h k
        have r0n : 0 ≤ r0 := by
          have := sumF_le (S := R) (f := fun _ => 0) (h := fun z => if h z = true then 0 else if k < m z then 0 else m z) fun z hz => by
            have := h0 z (hR z hz).1
            split <;> (try split) <;> omega
          rw [sumF_const] at this
          show 0 ≤ sumF R _
          omega
        rw [l1] at F1
        rw [l2] at F0 F1 ⊢
        rw [show min (m x) k = k by omega] at F0
        rw [show min (m y) k = m y by omega] at F0
        rw [show min (m y) (k + 1) = m y by omega] at F1
        rw [show min (m x - 1) k = k by omega, show min (m y - 1) k = m y - 1 by omega]
        rw [show k + 1 - 1 = k by omega, Int.add_mul, Int.one_mul] at F1
        rw [Int.mul_sub, Int.mul_one] at F0 ⊢
        have p1 : k * m x = k * (m x - k - r) + k * k + r * k := by
          rw [Int.mul_sub, Int.mul_sub, Int.mul_comm r k]; omega
        apply Classical.byContradiction
        intro hno
        have q1 : m x - k - r ≤ 0 := by
          generalize k * k = kk at *
          generalize r * k = rk at *
          omega
        have q2 : k * (m x - k - r) ≤ 0 := by
          have := Int.mul_le_mul_of_nonneg_left q1 k0
          rwa [Int.mul_zero] at this
        generalize k * k = kk at *
        generalize r * k = rk at *
        omega
end Dt

namespace Dt
open PySem PySem.Spec
def addG (g : Int → Int → Bool) (x y a b : Int) : Bool := g a b || pr x y a b
theorem Gr.add {S : List Int} {m : Int → Int} {g : Int → Int → Bool} (hn : S.Nodup) {x y : Int} (hx : x ∈ S) (hy : y ∈ S) (hxy : x ≠ y) (G : Gr g S (less2 m x y)) (h : g x y = false) : Gr (addG g x y) S m := by
  refine ⟨fun a b => by unfold addG; rw [G.sym, pr_sym], fun a => by unfold addG; rw [G.irr, pr_no (by omega)]; rfl, fun a ha => ?_⟩
  have d := G.deg a ha
  unfold less2 at d
  by_cases e1 : a = x
  · subst e1
    rw [if_pos (.inl rfl)] at d
    have : S.countP (addG g a y a) = S.countP fun z => g a z || decide (z = y) := countP_same fun z _ => by
      unfold addG
      congr 1
      by_cases e : z = y
      · rw [decide_eq_true e]; exact pr_yes (by omega)
      · rw [decide_eq_false e]; exact pr_no (by omega)
    rw [this, countP_one hn hy h]
    omega
  by_cases e2 : a = y
  · subst e2
    rw [if_pos (.inr rfl)] at d
    have : S.countP (addG g x a a) = S.countP fun z => g a z || decide (z = x) := countP_same fun z _ => by
      unfold addG
      congr 1
      by_cases e : z = x
      · rw [decide_eq_true e]; exact pr_yes (by omega)
      · rw [decide_eq_false e]; exact pr_no (by omega)
    rw [this, countP_one hn hx (by rw [G.sym]; exact h)]
    omega
  · rw [if_neg (by omega)] at d
    rw [← d]
    congr 1
    exact countP_same fun z _ => by unfold addG; rw [pr_no (by omega), Bool.or_false]
theorem sumF_less2 {S : List Int} {m : Int → Int} (hn : S.Nodup) {x y : Int} (hx : x ∈ S) (hy : y ∈ S) (hxy : x ≠ y) : sumF S (less2 m x y) = sumF S m - 2 := by
  have hy2 : y ∈ S.erase x := (List.mem_erase_of_ne (Ne.symm hxy)).mpr hy
  have hn1 : (S.erase x).Nodup := hn.erase x
  rw [sumF_take hx, sumF_take hy2, sumF_take hx m, sumF_take hy2 m]
  have : sumF ((S.erase x).erase y) (less2 m x y) = sumF ((S.erase x).erase y) m := sumF_eq fun z hz => by
    have z1 := (hn1.mem_erase_iff).mp hz
    have z2 := (hn.mem_erase_iff).mp z1.2
    unfold less2
    rw [if_neg (by omega)]
  rw [this]
  unfold less2
  rw [if_pos (.inl rfl), if_pos (.inr rfl)]
  omega
theorem sumF_nn {S : List Int} {m : Int → Int} (h0 : ∀ z ∈ S, 0 ≤ m z) : 0 ≤ sumF S m := by
  have := sumF_le (S := S) (f := fun _ => 0) h0
  rw [sumF_const] at this
  omega
theorem sumF_zero {S : List Int} {m : Int → Int} (h0 : ∀ z ∈ S, 0 ≤ m z) (h : sumF S m = 0) : ∀ z ∈ S, m z = 0 := fun z hz => by
  rw [sumF_take hz] at h
  have := sumF_nn (S := S.erase z) (m := m) fun w hw => h0 w (List.mem_of_mem_erase hw)
  have := h0 z hz
  omega
theorem Fits.gr : ∀ (k : Nat) {S : List Int} {m : Int → Int}, S.Nodup → Fits S m → evenI (sumF S m) → (∀ z ∈ S, 0 ≤ m z) → (sumF S m).toNat = k → ∃ g, Gr g S m := by
  intro k
  induction k using Nat.strongRecOn with
  | ind k ih =>
    intro S m hn F hev h0 hk
    by_cases hz : sumF S m = 0
    · exact ⟨fun _ _ => false, fun _ _ => rfl, fun _ => rfl, fun a ha => by rw [sumF_zero h0 hz a ha]; simp⟩
    have hnn := sumF_nn h0
    have hne : S ≠ [] := fun e => by subst e; exact hz rfl
    obtain ⟨x, hx, htop⟩ := topmost_ex m hne
    have hmax : ∀ z ∈ S, m z ≤ m x := fun z hz => by have := htop z hz; omega
    have hxp : 0 < m x := by
      rcases Int.lt_or_le 0 (m x) with e | e
      · exact e
      · exfalso
        have : sumF S m ≤ sumF S fun _ => 0 := sumF_le fun z hz => by have := hmax z hz; omega
        rw [sumF_const] at this
        omega
    -- those who have lines
    have hcx : S.countP (fun z => decide (z = x)) = 1 := by
      have := countP_one (A := fun _ => false) hn hx rfl
      simp only [Bool.false_or] at this
      rw [this]; simp
    have F1 := F fun z => decide (z = x)
    rw [hcx] at F1
    have e1 : hiS S m (fun z => decide (z = x)) = m x := by
      rw [hiS_take hx, if_pos (by simp)]
      have : hiS (S.erase x) m (fun z => decide (z = x)) = 0 := by
        unfold hiS
        rw [sumF_eq (h := fun _ => 0) fun z hz => if_neg (by simpa using ((hn.mem_erase_iff).mp hz).1), sumF_const]
        simp
      omega
    have e2 : loS S m (fun z => decide (z = x)) ((1 : Nat) : Int) = (((S.erase x).filter fun z => decide (0 < m z)).length : Int) := by
      rw [loS_take hx, if_pos (by simp), ← List.countP_eq_length_filter, ← sumF_count]
      unfold loS
      rw [Int.zero_add]
      exact sumF_eq fun z hz => by
        have z1 := (hn.mem_erase_iff).mp hz
        have := h0 z z1.2
        rw [if_neg (by simpa using z1.1)]
        by_cases c : 0 < m z
        · rw [if_pos (by simpa using c)]; omega
        · rw [if_neg (by simpa using c)]; omega
    rw [e1, e2] at F1
    have F2 : m x ≤ (((S.erase x).filter fun z => decide (0 < m z)).length : Int) := by simpa using F1
    generalize hP : (S.erase x).filter (fun z => decide (0 < m z)) = P at F2
    have memP : ∀ z, z ∈ P ↔ (z ≠ x ∧ z ∈ S) ∧ 0 < m z := fun z => by
      rw [← hP, List.mem_filter, hn.mem_erase_iff]
      simp
    have nP : P.Nodup := by rw [← hP]; exact (hn.erase x).filter _
    have hPne : P ≠ [] := fun e => by rw [e] at F2; simp at F2; omega
    obtain ⟨y, hy, hymin⟩ := topmost_ex (fun z => - m z) hPne
    have my := (memP y).mp hy
    have hmin : ∀ z ∈ P, m y ≤ m z := fun z hz => by have := hymin z hz; dsimp only at this; omega
    have hxy : x ≠ y := Ne.symm my.1.1
    have s2 := sumF_less2 (m := m) hn hx my.1.2 hxy
    have nn2 : ∀ z ∈ S, 0 ≤ less2 m x y z := fun z hz => by
      have := h0 z hz
      unfold less2
      split
      · rename_i c
        rcases c with rfl | rfl
        · omega
        · have := my.2; omega
      · exact this
    have hnn2 := sumF_nn nn2
    obtain ⟨g, G⟩ := ih (sumF S (less2 m x y)).toNat (by omega) hn (F.less hn hev h0 hx my.1.2 hxy hmax my.2) (by unfold evenI at *; omega) nn2 rfl
    cases hg : g x y with
    | false => exact ⟨_, G.add hn hx my.1.2 hxy hg⟩
    | true =>
      -- somebody who is not tied to the first
      have : ∃ z ∈ P, g x z = false := by
        apply Classical.byContradiction
        intro hno
        have hall : ∀ z ∈ P, z ∈ S.filter (g x) := fun z hz => List.mem_filter.mpr ⟨((memP z).mp hz).1.2, by
          cases hgz : g x z with
          | true => rfl
          | false => exact absurd ⟨z, hz, hgz⟩ hno⟩
        have l := nodup_sub_len nP hall
        have d := G.deg x hx
        rw [List.countP_eq_length_filter] at d
        unfold less2 at d
        rw [if_pos (.inl rfl)] at d
        omega
      obtain ⟨z, hzP, hgz⟩ := this
      have mz := (memP z).mp hzP
      have hzy : z ≠ y := fun e => by rw [e, hg] at hgz; cases hgz
      have hm2 : less2 m x y y ≤ less2 m x y z := by
        unfold less2
        rw [if_pos (.inr rfl), if_neg (by have := mz.1.1; omega)]
        have := hmin z hzP
        omega
      obtain ⟨w, hw, n, w1, w2⟩ := G.trade hn hx mz.1.2 my.1.2 (Ne.symm mz.1.1) hxy hzy hgz hg hm2
      exact ⟨_, (G.swap hn hx mz.1.2 my.1.2 hw n hgz hg w1 w2).add hn hx my.1.2 hxy (swp_off n (.inl ⟨rfl, rfl⟩))⟩
/-! ### the k greatest ones -/
theorem top_take {f : Int → Int} : ∀ {o : List Int}, o.Pairwise (fun a b => f b ≤ f a) → ∀ (h : Int → Bool) (k : Nat), o.countP h = k → (sumF o fun z => if h z = true then f z else 0) ≤ sumF (o.take k) f
  | [], _, h, k, hk => by simp [sumF]
  | a :: o, hp, h, k, hk => by
    have hp2 := List.pairwise_cons.mp hp
    rw [List.countP_cons] at hk
    rw [sumF_cons]
    by_cases ha : h a = true
    · rw [if_pos ha] at hk ⊢
      have := top_take hp2.2 h (o.countP h) rfl
      subst hk
      rw [List.take_succ_cons, sumF_cons]
      omega
    · rw [if_neg ha] at hk ⊢
      have := top_take hp2.2 h k (by omega)
      rw [Int.zero_add]
      refine Int.le_trans this ?_
      cases k with
      | zero => simp
      | succ k =>
        have hlen : k < o.length := by
          have := List.countP_le_length (p := h) (l := o)
          omega
        rw [List.take_succ_cons, sumF_cons, List.take_add_one, List.getElem?_eq_getElem hlen, sumF_append]
        have := hp2.1 o[k] (List.getElem_mem hlen)
        show _ + sumF [o[k]] f ≤ _
        rw [sumF_cons, sumF_nil]
        omega
/-- the law's own look: the k greatest ones, for each k -/
def TopFits (o : List Int) (m : Int → Int) : Prop := ∀ k, k ≤ o.length → sumF (o.take k) m ≤ (k : Int) * ((k : Int) - 1) + sumF (o.drop k) fun z => min (m z) k
theorem fits_perm {S o : List Int} (hp : o.Perm S) {m : Int → Int} : Fits S m ↔ Fits o m := by
  unfold Fits hiS loS
  refine forall_congr' fun h => ?_
  rw [hp.countP_eq, sumF_perm hp, sumF_perm hp]
theorem TopFits.fits {o : List Int} {m : Int → Int} (hs : o.Pairwise fun a b => m b ≤ m a) (T : TopFits o m) : Fits o m := by
  intro h
  have hk := T (o.countP h) List.countP_le_length
  generalize hkk : o.countP h = k at *
  have t := top_take (f := fun z => m z + min (m z) k) (hs.imp fun h => by omega) h k hkk
  rw [sumF_add] at t
  have a1 : (sumF o fun z => if h z = true then m z + min (m z) k else 0) + loS o m h k = hiS o m h + sumF o fun z => min (m z) k := by
    unfold loS hiS
    rw [← sumF_add, ← sumF_add]
    exact sumF_eq fun z _ => by split <;> omega
  have a2 : (sumF o fun z => min (m z) (k : Int)) = sumF (o.take k) (fun z => min (m z) (k : Int)) + sumF (o.drop k) fun z => min (m z) (k : Int) := by
    rw [← sumF_append, List.take_append_drop]
  omega
theorem Fits.top {o : List Int} {m : Int → Int} (hn : o.Nodup) (F : Fits o m) : TopFits o m := by
  intro k hk
  have f := F fun z => decide (z ∈ o.take k)
  have hd : ∀ z ∈ o.drop k, z ∉ o.take k := fun z hz hz2 => by
    have h := hn
    rw [← List.take_append_drop k o, List.nodup_append] at h
    exact h.2.2 z hz2 z hz rfl
  have c : o.countP (fun z => decide (z ∈ o.take k)) = k := by
    conv => lhs; rw [← List.take_append_drop k o]
    rw [List.countP_append, List.countP_eq_length.mpr fun z hz => by simpa using hz, List.countP_eq_zero.mpr fun z hz => by simpa using hd z hz, List.length_take]
    omega
  rw [c] at f
  have a1 : hiS o m (fun z => decide (z ∈ o.take k)) = sumF (o.take k) m := by
    unfold hiS
    conv => lhs; rw [← List.take_append_drop k o]
    rw [sumF_append, sumF_eq (S := o.take k) (h := m) fun z hz => by rw [List.take_append_drop, if_pos (by simpa using hz)], sumF_eq (S := o.drop k) (h := fun _ => 0) fun z hz => by rw [List.take_append_drop, if_neg (by simpa using hd z hz)], sumF_const]
    omega
  have a2 : loS o m (fun z => decide (z ∈ o.take k)) k = sumF (o.drop k) fun z => min (m z) k := by
    unfold loS
    conv => lhs; rw [← List.take_append_drop k o]
    rw [sumF_append, sumF_eq (S := o.take k) (h := fun _ => 0) fun z hz => by rw [List.take_append_drop, if_pos (by simpa using hz)], sumF_eq (S := o.drop k) (h := fun z => min (m z) (k : Int)) fun z hz => by rw [List.take_append_drop, if_neg (by simpa using hd z hz)], sumF_const]
    omega
  rw [a1, a2] at f
  exact f
end Dt

namespace Dt
open PySem PySem.Spec
/-! ### the law's own count of the k greatest ones -/
def okAt (f : List Int) (k : Nat) : Prop := (f.take k).sum ≤ (k : Int) * ((k : Int) - 1) + ((f.drop k).map fun z => min z (k : Int)).sum
instance (f : List Int) (k : Nat) : Decidable (okAt f k) := by unfold okAt; infer_instance
def fitsR (f : List Int) : Prop := f.sum % 2 = 0 ∧ ∀ k, k ≤ f.length → okAt f k
noncomputable instance (f : List Int) : Decidable (fitsR f) := Classical.propDecidable _
/-- greatest first -/
def downF (row : List Int) : List Int := (srtB false lti row).reverse
theorem downF_len (row : List Int) : (downF row).length = row.length := by
  unfold downF
  rw [List.length_reverse, (srtB_perm false lti row).length_eq]
theorem downF_perm (row : List Int) : (downF row).Perm row := (List.reverse_perm _).trans (srtB_perm false lti row)
theorem downF_map (row : List Int) : ((rangeI 0 row.length).mergeSort (downLe (atF row))).map (atF row) = downF row := by
  have p : (((rangeI 0 row.length).mergeSort (downLe (atF row))).map (atF row)).Perm row := by
    have := (List.mergeSort_perm (rangeI 0 row.length) (downLe (atF row))).map (atF row)
    refine this.trans ?_
    unfold atF
    rw [map_getD rfl]
  unfold downF
  rw [← List.reverse_reverse (List.map _ _)]
  congr 1
  refine srt_eq tot_lti ((List.reverse_perm _).trans p) ?_
  rw [List.pairwise_reverse, List.pairwise_map]
  exact (down_sorted (atF row) (rangeI 0 row.length)).imp fun h => by
    unfold downLe at h
    simp only [decide_eq_true_eq] at h
    unfold lti
    simp
    omega
theorem sumF_map (S : List Int) (m : Int → Int) : sumF S m = (S.map m).sum := rfl
theorem top_okAt {row : List Int} {o : List Int} {m : Int → Int} (e : o.map m = downF row) : TopFits o m ↔ ∀ k, k ≤ (downF row).length → okAt (downF row) k := by
  have hl : o.length = (downF row).length := by rw [← e, List.length_map]
  unfold TopFits okAt
  rw [hl]
  refine forall_congr' fun k => forall_congr' fun hk => ?_
  rw [sumF_map, sumF_map, List.map_take, e]
  rw [← e, ← List.map_drop, List.map_map]
  rfl
theorem web_sum_even {n : Nat} {row : List Int} {ls : List Ln} (hr : row.length = n) (h : IsWeb n ls) (hd : ∀ z : Int, 0 ≤ z ∧ z < n → degI ls z = atF row z) : row.sum % 2 = 0 := by
  have := lots_even (m := n) (ls := ls) fun p hp => h.mem hp
  have e : lotsI n ls = row := by
    unfold lotsI
    rw [List.map_congr_left (g := atF row) fun z hz => hd z (by have := mem_rangeI.mp hz; omega)]
    exact map_getD hr
  rwa [e] at this
theorem sum_perm {a b : List Int} (h : a.Perm b) : a.sum = b.sum := by
  have := sumF_perm h id
  unfold sumF at this
  simpa using this
/-- MAIN: a row is a web's just where the law's count lets it be -/
theorem web_iff_fits {row : List Int} (h0 : ∀ z ∈ row, 0 ≤ z) : HasWeb row.length (atF row) noL ↔ fitsR (downF row) := by
  have hn := rangeI_nodup 0 row.length
  have po := List.mergeSort_perm (rangeI 0 row.length) (downLe (atF row))
  have no : ((rangeI 0 row.length).mergeSort (downLe (atF row))).Nodup := po.nodup_iff.mpr hn
  have em : sumF (rangeI 0 row.length) (atF row) = row.sum := by
    rw [sumF_map]
    congr 1
    exact map_getD rfl
  have ed : (downF row).sum = row.sum := sum_perm (downF_perm row)
  unfold fitsR
  rw [← top_okAt (downF_map row), ed]
  constructor
  · rintro ⟨ls, w1, w2, -⟩
    exact ⟨web_sum_even rfl w1 w2, (((fits_perm po).mp ((Gr.of_web w1 w2).fits hn))).top no⟩
  · rintro ⟨e1, e2⟩
    have F := (fits_perm po).mpr (TopFits.fits ((down_sorted (atF row) (rangeI 0 row.length)).imp fun h => by
      unfold downLe at h
      simp only [decide_eq_true_eq] at h
      omega) e2)
    have hat : ∀ z ∈ rangeI 0 row.length, 0 ≤ atF row z := fun z hz => by
      have := mem_rangeI.mp hz
      unfold atF
      have hlt : z.toNat < row.length := by omega
      rw [List.getD_eq_getElem?_getD, List.getElem?_eq_getElem hlt]
      exact h0 _ (List.getElem_mem hlt)
    obtain ⟨g, G⟩ := Fits.gr _ hn F (by unfold evenI; rw [em]; exact e1) hat rfl
    obtain ⟨ls, w1, w2, w3⟩ := G.to_web
    exact ⟨ls, w1, w2, fun _ _ => rfl⟩
end Dt

namespace Dt
open PySem PySem.Spec
/-! ### levels, steps -/
/-- the level: the greatest number that one more have -/
def LevM (S : List Int) (m : Int → Int) (L : Nat) : Prop := L + 1 ≤ S.countP (fun z => decide ((L : Int) ≤ m z)) ∧ S.countP (fun z => decide ((L : Int) + 1 ≤ m z)) ≤ L + 1
/-- two people more by one -/
def more2 (m : Int → Int) (x y : Int) : Int → Int := fun z => if z = x ∨ z = y then m z + 1 else m z
theorem less_more (m : Int → Int) (x y : Int) : less2 (more2 m x y) x y = m := by
  funext z
  show (if z = x ∨ z = y then (if z = x ∨ z = y then m z + 1 else m z) - 1 else (if z = x ∨ z = y then m z + 1 else m z)) = m z
  split <;> omega
theorem Gr.raise {g : Int → Int → Bool} {S : List Int} {m : Int → Int} (G : Gr g S m) (hn : S.Nodup) {a b : Int} (ha : a ∈ S) (hb : b ∈ S) (hab : a ≠ b) {L : Nat} (e : m a = m b) (hd : m a < L) (hL : L + 1 ≤ S.countP (fun z => decide ((L : Int) ≤ m z))) :
    ∃ g', Gr g' S (more2 m a b) := by
  cases hg : g a b with
  | false => exact ⟨_, Gr.add hn ha hb hab (by rw [less_more]; exact G) hg⟩
  | true =>
    have da := G.deg a ha
    have db := G.deg b hb
    have : ∃ x ∈ S, (L : Int) ≤ m x ∧ g a x = false := by
      apply Classical.byContradiction
      intro hno
      have : S.countP (fun z => decide ((L : Int) ≤ m z)) ≤ S.countP (g a) := List.countP_mono_left fun z hz h => by
        cases hgz : g a z with
        | true => rfl
        | false => exact absurd ⟨z, hz, of_decide_eq_true h, hgz⟩ hno
      omega
    obtain ⟨x, hx, hxL, hgx⟩ := this
    have dx := G.deg x hx
    have : ∃ y ∈ S, g x y = true ∧ g b y = false ∧ y ≠ b := by
      apply Classical.byContradiction
      intro hno
      have h1 : S.countP (g x) = (S.erase a).countP (g x) := by rw [countP_take hn ha, G.sym x a, hgx]; rfl
      have h2 : S.countP (g b) = (S.erase a).countP (g b) + 1 := by rw [countP_take hn ha, G.sym b a, hg]; rfl
      have hb2 : b ∈ S.erase a := (List.mem_erase_of_ne (Ne.symm hab)).mpr hb
      have h3 : (S.erase a).countP (fun y => g b y || decide (y = b)) = (S.erase a).countP (g b) + 1 := countP_one (hn.erase a) hb2 (G.irr b)
      have h4 : (S.erase a).countP (g x) ≤ (S.erase a).countP (fun y => g b y || decide (y = b)) := List.countP_mono_left fun z hz h => by
        have hz2 := List.mem_of_mem_erase hz
        cases hgz : g b z with
        | true => rfl
        | false =>
          by_cases e : z = b
          · simp [e]
          · exact absurd ⟨z, hz2, h, hgz, e⟩ hno
      omega
    obtain ⟨y, hy, y1, y2, y3⟩ := this
    have n : a ≠ x ∧ a ≠ b ∧ a ≠ y ∧ x ≠ b ∧ x ≠ y ∧ b ≠ y := by
      refine ⟨fun q => (by rw [← q] at hxL; omega), hab, fun q => (by rw [← q, G.sym, hg] at y2; cases y2), fun q => (by rw [q] at hxL; omega), fun q => (by rw [q, G.irr] at y1; cases y1), Ne.symm y3⟩
    exact ⟨_, Gr.add hn ha hb hab (by rw [less_more]; exact G.swap hn ha hx hb hy n hgx hg y1 y2) (swp_off n (.inl ⟨rfl, rfl⟩))⟩
def cutG (g : Int → Int → Bool) (x y a b : Int) : Bool := g a b && !pr x y a b
theorem Gr.cut {S : List Int} {m : Int → Int} {g : Int → Int → Bool} (hn : S.Nodup) {x y : Int} (hx : x ∈ S) (hy : y ∈ S) (hxy : x ≠ y) (G : Gr g S m) (h : g x y = true) : Gr (cutG g x y) S (less2 m x y) := by
  refine ⟨fun a b => by unfold cutG; rw [G.sym, pr_sym], fun a => by unfold cutG; rw [G.irr]; rfl, fun a ha => ?_⟩
  have d := G.deg a ha
  unfold less2
  by_cases e1 : a = x
  · subst e1
    rw [if_pos (.inl rfl)]
    have h1 : S.countP (g a) = (S.erase y).countP (g a) + 1 := by rw [countP_take hn hy, h]; rfl
    have h2 : S.countP (cutG g a y a) = (S.erase y).countP (g a) := by
      rw [countP_take hn hy]
      rw [show cutG g a y a y = false by unfold cutG; rw [pr_yes (.inl ⟨rfl, rfl⟩)]; simp]
      have : (S.erase y).countP (cutG g a y a) = (S.erase y).countP (g a) := countP_same fun z hz => by
        have := (hn.mem_erase_iff).mp hz
        unfold cutG
        rw [pr_no (by omega)]
        simp
      rw [this]
      rfl
    omega
  by_cases e2 : a = y
  · subst e2
    rw [if_pos (.inr rfl)]
    have h1 : S.countP (g a) = (S.erase x).countP (g a) + 1 := by rw [countP_take hn hx, G.sym, h]; rfl
    have h2 : S.countP (cutG g x a a) = (S.erase x).countP (g a) := by
      rw [countP_take hn hx]
      rw [show cutG g x a a x = false by unfold cutG; rw [pr_yes (.inr ⟨rfl, rfl⟩)]; simp]
      have : (S.erase x).countP (cutG g x a a) = (S.erase x).countP (g a) := countP_same fun z hz => by
        have := (hn.mem_erase_iff).mp hz
        unfold cutG
        rw [pr_no (by omega)]
        simp
      rw [this]
      rfl
    omega
  · rw [if_neg (by omega), ← d]
    congr 1
    exact countP_same fun z _ => by
      unfold cutG
      rw [pr_no (by omega)]
      simp
theorem Gr.lower {g : Int → Int → Bool} {S : List Int} {m : Int → Int} (G : Gr g S m) (hn : S.Nodup) {a b : Int} (ha : a ∈ S) (hb : b ∈ S) (hab : a ≠ b) {L : Nat} (e : m a = m b) (hd : L < m a) (hL : S.countP (fun z => decide ((L : Int) + 1 ≤ m z)) ≤ L + 1) :
    ∃ g', Gr g' S (less2 m a b) := by
  cases hg : g a b with
  | true => exact ⟨_, Gr.cut hn ha hb hab G hg⟩
  | false =>
    have da := G.deg a ha
    have db := G.deg b hb
    have : ∃ x ∈ S, m x ≤ L ∧ g a x = true := by
      apply Classical.byContradiction
      intro hno
      have h1 : S.countP (g a) = (S.erase a).countP (g a) := by rw [countP_take hn ha, G.irr]; rfl
      have h2 : S.countP (fun z => decide ((L : Int) + 1 ≤ m z)) = (S.erase a).countP (fun z => decide ((L : Int) + 1 ≤ m z)) + 1 := by rw [countP_take hn ha, if_pos (by simp; omega)]
      have h3 : (S.erase a).countP (g a) ≤ (S.erase a).countP (fun z => decide ((L : Int) + 1 ≤ m z)) := List.countP_mono_left fun z hz h => by
        apply Classical.byContradiction
        intro q
        have q : ¬ ((L : Int) + 1 ≤ m z) := by simpa using q
        exact hno ⟨z, List.mem_of_mem_erase hz, by omega, h⟩
      omega
    obtain ⟨x, hx, hxL, hgx⟩ := this
    have dx := G.deg x hx
    have hax : a ≠ x := fun q => by rw [← q] at hxL; omega
    have hbx : b ≠ x := fun q => by rw [← q] at hxL; omega
    have : ∃ y ∈ S, g b y = true ∧ g x y = false ∧ y ≠ x := by
      apply Classical.byContradiction
      intro hno
      have h1 : S.countP (g b) = (S.erase a).countP (g b) := by rw [countP_take hn ha, G.sym b a, hg]; rfl
      have h2 : S.countP (g x) = (S.erase a).countP (g x) + 1 := by rw [countP_take hn ha, G.sym x a, hgx]; rfl
      have hx2 : x ∈ S.erase a := (List.mem_erase_of_ne (Ne.symm hax)).mpr hx
      have h3 : (S.erase a).countP (fun y => g x y || decide (y = x)) = (S.erase a).countP (g x) + 1 := countP_one (hn.erase a) hx2 (G.irr x)
      have h4 : (S.erase a).countP (g b) ≤ (S.erase a).countP (fun y => g x y || decide (y = x)) := List.countP_mono_left fun z hz h => by
        have hz2 := List.mem_of_mem_erase hz
        cases hgz : g x z with
        | true => rfl
        | false =>
          by_cases e : z = x
          · simp [e]
          · exact absurd ⟨z, hz2, h, hgz, e⟩ hno
      omega
    obtain ⟨y, hy, y1, y2, y3⟩ := this
    have n : a ≠ b ∧ a ≠ x ∧ a ≠ y ∧ b ≠ x ∧ b ≠ y ∧ x ≠ y := by
      refine ⟨hab, hax, fun q => (by rw [← q, G.sym, hg] at y1; cases y1), hbx, fun q => (by rw [q, G.irr] at y1; cases y1), Ne.symm y3⟩
    exact ⟨_, Gr.cut hn ha hb hab (G.swap hn ha hb hx hy n hg hgx y1 y2) (swp_on (.inl ⟨rfl, rfl⟩))⟩
theorem LevM.raise {S : List Int} {m : Int → Int} {L : Nat} (V : LevM S m L) {a b : Int} (e : m a = m b) (hd : m a < L) : LevM S (more2 m a b) L := by
  refine ⟨Nat.le_trans V.1 (List.countP_mono_left fun z _ h => ?_), Nat.le_trans (List.countP_mono_left fun z _ h => ?_) V.2⟩
  · have h := of_decide_eq_true h
    unfold more2
    refine decide_eq_true ?_
    split <;> omega
  · have h := of_decide_eq_true h
    unfold more2 at h
    refine decide_eq_true ?_
    split at h
    · rename_i c
      rcases c with rfl | rfl <;> omega
    · exact h
theorem LevM.lower {S : List Int} {m : Int → Int} {L : Nat} (V : LevM S m L) {a b : Int} (e : m a = m b) (hd : L < m a) : LevM S (less2 m a b) L := by
  refine ⟨Nat.le_trans V.1 (List.countP_mono_left fun z _ h => ?_), Nat.le_trans (List.countP_mono_left fun z _ h => ?_) V.2⟩
  · have h := of_decide_eq_true h
    unfold less2
    refine decide_eq_true ?_
    split
    · rename_i c
      rcases c with rfl | rfl <;> omega
    · exact h
  · have h := of_decide_eq_true h
    unfold less2 at h
    refine decide_eq_true ?_
    split at h <;> omega
/-- the level as the law and the program see it -/
def IsLev (row : List Int) (L : Nat) : Prop := ∃ h : L < (downF row).length, (L : Int) ≤ (downF row)[L] ∧ ∀ j, L < j → ∀ h2 : j < (downF row).length, (downF row)[j] < (j : Int)
theorem IsLev.one {row : List Int} {L M : Nat} (h1 : IsLev row L) (h2 : IsLev row M) : L = M := by
  obtain ⟨a1, a2, a3⟩ := h1
  obtain ⟨b1, b2, b3⟩ := h2
  rcases Nat.lt_trichotomy L M with c | c | c
  · have := a3 M c b1; omega
  · exact c
  · have := b3 L c a1; omega
end Dt

namespace Dt
open PySem PySem.Spec
end Dt

namespace Dt
open PySem PySem.Spec
/-! ### a step of two people with one number -/
def rowOf (n : Nat) (m : Int → Int) : List Int := (rangeI 0 n).map m
theorem rowOf_len (n : Nat) (m : Int → Int) : (rowOf n m).length = n := by unfold rowOf; rw [List.length_map, len_rangeI]
theorem rowOf_at {n : Nat} {m : Int → Int} {z : Int} (h : 0 ≤ z ∧ z < n) : atF (rowOf n m) z = m z := by
  unfold atF rowOf
  have hlt : z.toNat < n := by omega
  rw [List.getD_eq_getElem?_getD, List.getElem?_map, rangeI_getElem hlt]
  show m (0 + (z.toNat : Int)) = m z
  congr 1
  omega
theorem Gr.congr {g : Int → Int → Bool} {S : List Int} {m m2 : Int → Int} (G : Gr g S m) (e : ∀ z ∈ S, m z = m2 z) : Gr g S m2 := ⟨G.sym, G.irr, fun a ha => by rw [G.deg a ha, e a ha]⟩
theorem hasWeb_gr {n : Nat} {m : Int → Int} : HasWeb n m noL ↔ ∃ g, Gr g (rangeI 0 n) m := by
  constructor
  · rintro ⟨ls, w1, w2, -⟩
    exact ⟨_, Gr.of_web w1 w2⟩
  · rintro ⟨g, G⟩
    obtain ⟨ls, w1, w2, -⟩ := G.to_web
    exact ⟨ls, w1, w2, fun _ _ => rfl⟩
theorem hasWeb_bound {n : Nat} {m : Int → Int} (h : HasWeb n m noL) {z : Int} (hz : 0 ≤ z ∧ z < n) : 0 ≤ m z ∧ m z < n := by
  obtain ⟨g, G⟩ := hasWeb_gr.mp h
  have := G.bound (mem_rangeI.mpr (by omega) : z ∈ rangeI 0 n)
  rw [len_rangeI] at this
  exact this
theorem LevM.congr {S : List Int} {m m2 : Int → Int} {L : Nat} (V : LevM S m L) (e : ∀ z ∈ S, m z = m2 z) : LevM S m2 L := by
  have c1 : S.countP (fun z => decide ((L : Int) ≤ m z)) = S.countP (fun z => decide ((L : Int) ≤ m2 z)) := countP_same fun z hz => by rw [e z hz]
  have c2 : S.countP (fun z => decide ((L : Int) + 1 ≤ m z)) = S.countP (fun z => decide ((L : Int) + 1 ≤ m2 z)) := countP_same fun z hz => by rw [e z hz]
  unfold LevM at *
  rw [← c1, ← c2]
  exact V
/-- towards the level -/
def stepM (m : Int → Int) (L : Nat) (a b : Int) : Int → Int := fun z => m z + (if m a < L then 1 else -1) * if z = a ∨ z = b then 1 else 0
theorem stepM_up {m : Int → Int} {L : Nat} {a b : Int} (h : m a < L) : stepM m L a b = more2 m a b := by
  funext z
  unfold stepM more2
  rw [if_pos h]
  split <;> omega
theorem stepM_down {m : Int → Int} {L : Nat} {a b : Int} (h : ¬ m a < L) : stepM m L a b = less2 m a b := by
  funext z
  unfold stepM less2
  rw [if_neg h]
  split <;> omega
theorem step_gr {g : Int → Int → Bool} {S : List Int} {m : Int → Int} (G : Gr g S m) (hn : S.Nodup) {a b : Int} (ha : a ∈ S) (hb : b ∈ S) (hab : a ≠ b) {L : Nat} (V : LevM S m L) (e : m a = m b) (hL : m a ≠ L) :
    (∃ g', Gr g' S (stepM m L a b)) ∧ LevM S (stepM m L a b) L := by
  by_cases h : m a < L
  · rw [stepM_up h]
    exact ⟨G.raise hn ha hb hab e h V.1, V.raise e h⟩
  · rw [stepM_down h]
    exact ⟨G.lower hn ha hb hab e (by omega) V.2, V.lower e (by omega)⟩
/-- how far all are from the level -/
def farM (S : List Int) (m : Int → Int) (L : Nat) : Int := sumF S fun z => ((m z - L).natAbs : Int)
theorem farM_step {S : List Int} (hn : S.Nodup) {m : Int → Int} {L : Nat} {a b : Int} (ha : a ∈ S) (hb : b ∈ S) (hab : a ≠ b) (e : m a = m b) (hL : m a ≠ L) : farM S (stepM m L a b) L + 2 = farM S m L := by
  have hb2 : b ∈ S.erase a := (List.mem_erase_of_ne (Ne.symm hab)).mpr hb
  unfold farM
  rw [sumF_take ha, sumF_take hb2, sumF_take ha (fun z => ((m z - L).natAbs : Int)), sumF_take hb2 (fun z => ((m z - L).natAbs : Int))]
  have : sumF ((S.erase a).erase b) (fun z => ((stepM m L a b z - L).natAbs : Int)) = sumF ((S.erase a).erase b) (fun z => ((m z - L).natAbs : Int)) := sumF_eq fun z hz => by
    have z1 := ((hn.erase a).mem_erase_iff).mp hz
    have z2 := (hn.mem_erase_iff).mp z1.2
    unfold stepM
    rw [if_neg (show ¬ (z = a ∨ z = b) by omega), Int.mul_zero, Int.add_zero]
  rw [this]
  unfold stepM
  rw [if_pos (show a = a ∨ a = b from .inl rfl), if_pos (show b = a ∨ b = b from .inr rfl)]
  split <;> omega
theorem farM_nn (S : List Int) (m : Int → Int) (L : Nat) : 0 ≤ farM S m L := sumF_nn fun z _ => by omega
/-- rows with a level -/
structure StepsAt (n : Nat) (row : List Int) (L : Nat) : Prop where
  len : row.length = n
  web : HasWeb n (atF row) noL
  lev : LevM (rangeI 0 n) (atF row) L
theorem StepsAt.bound {n : Nat} {row : List Int} {L : Nat} (h : StepsAt n row L) : ∀ z ∈ row, 0 ≤ z ∧ z < n := fun z hz => by
  obtain ⟨i, hi, rfl⟩ := List.mem_iff_getElem.mp hz
  have := hasWeb_bound h.web (z := (i : Int)) (by have := h.len; omega)
  unfold atF at this
  rw [Int.toNat_natCast, List.getD_eq_getElem?_getD, List.getElem?_eq_getElem hi] at this
  exact this
theorem StepsAt.step {n : Nat} {row : List Int} {L : Nat} (h : StepsAt n row L) {a b : Int} (hp : (a, b) ∈ allP n) (e : atF row a = atF row b) (hL : atF row a ≠ L) : StepsAt n (rowOf n (stepM (atF row) L a b)) L ∧ farM (rangeI 0 n) (atF (rowOf n (stepM (atF row) L a b))) L + 2 = farM (rangeI 0 n) (atF row) L := by
  have hb := mem_allP hp
  have ha2 : a ∈ rangeI 0 n := mem_rangeI.mpr (by dsimp only at hb; omega)
  have hb2 : b ∈ rangeI 0 n := mem_rangeI.mpr (by dsimp only at hb; omega)
  have hab : a ≠ b := by dsimp only at hb; omega
  have hn := rangeI_nodup 0 n
  obtain ⟨g, G⟩ := hasWeb_gr.mp h.web
  have same : ∀ z ∈ rangeI 0 n, stepM (atF row) L a b z = atF (rowOf n (stepM (atF row) L a b)) z := fun z hz => (rowOf_at (by have := mem_rangeI.mp hz; omega)).symm
  obtain ⟨⟨g', G'⟩, V'⟩ := step_gr G hn ha2 hb2 hab h.lev e hL
  refine ⟨⟨rowOf_len _ _, hasWeb_gr.mpr ⟨g', G'.congr same⟩, V'.congr same⟩, ?_⟩
  rw [← farM_step hn ha2 hb2 hab e hL]
  unfold farM
  congr 1
  exact sumF_eq fun z hz => by rw [same z hz]
end Dt

namespace Dt
open PySem PySem.Spec
/-! ### pairs come to the level: trial rows -/
theorem lev_ex {S : List Int} {m : Int → Int} (hne : S ≠ []) (h0 : ∀ z ∈ S, 0 ≤ m z) : ∃ L : Nat, LevM S m L ∧ L < S.length := by
  apply Classical.byContradiction
  intro hno
  have main : ∀ k : Nat, k + 1 ≤ S.countP fun z => decide ((k : Int) ≤ m z) := by
    intro k
    induction k with
    | zero =>
      have : S.countP (fun z => decide (((0 : Nat) : Int) ≤ m z)) = S.length := List.countP_eq_length.mpr fun z hz => by
        have := h0 z hz
        simpa using this
      rw [this]
      exact List.length_pos_iff.mpr hne
    | succ k ih =>
      apply Classical.byContradiction
      intro q
      have hk : k < S.length := by
        have := List.countP_le_length (p := fun z : Int => decide ((k : Int) ≤ m z)) (l := S)
        omega
      refine hno ⟨k, ⟨ih, ?_⟩, hk⟩
      have e : ((k + 1 : Nat) : Int) = (k : Int) + 1 := by omega
      rw [e] at q
      omega
  have := main S.length
  have := List.countP_le_length (p := fun z : Int => decide ((S.length : Int) ≤ m z)) (l := S)
  omega
/-- who stand in pairs behind the first: all come to the level -/
theorem pairs_level {S : List Int} (hn : S.Nodup) {L : Nat} {B k : Nat} (hS : ∀ i : Nat, i < k → ((B + i : Nat) : Int) ∈ S ∧ ((B + k + i : Nat) : Int) ∈ S) : ∀ (w : Nat) {m : Int → Int} {g : Int → Int → Bool}, Gr g S m → LevM S m L → (∀ i : Nat, i < k → m ((B + i : Nat) : Int) = m ((B + k + i : Nat) : Int)) → (farM S m L).toNat = w →
    ∃ m', (∃ g', Gr g' S m') ∧ (∀ z : Int, z < B → m' z = m z) ∧ ∀ i : Nat, i < k → m' ((B + i : Nat) : Int) = L ∧ m' ((B + k + i : Nat) : Int) = L := by
  intro w
  induction w using Nat.strongRecOn with
  | ind w ih =>
    intro m g G V hp hw
    by_cases hall : ∀ i : Nat, i < k → m ((B + i : Nat) : Int) = L
    · exact ⟨m, ⟨g, G⟩, fun z _ => rfl, fun i hi => ⟨hall i hi, by rw [← hp i hi]; exact hall i hi⟩⟩
    · obtain ⟨i, hi, hne⟩ : ∃ i : Nat, i < k ∧ m ((B + i : Nat) : Int) ≠ L := Classical.byContradiction fun q => hall fun i hi => Classical.byContradiction fun r => q ⟨i, hi, r⟩
      obtain ⟨ha, hb⟩ := hS i hi
      have hab : ((B + i : Nat) : Int) ≠ ((B + k + i : Nat) : Int) := by omega
      obtain ⟨⟨g', G'⟩, V'⟩ := step_gr G hn ha hb hab V (hp i hi) hne
      have far := farM_step hn ha hb hab (hp i hi) hne
      have nn := farM_nn S (stepM m L ((B + i : Nat) : Int) ((B + k + i : Nat) : Int)) L
      have hp' : ∀ j : Nat, j < k → stepM m L ((B + i : Nat) : Int) ((B + k + i : Nat) : Int) ((B + j : Nat) : Int) = stepM m L ((B + i : Nat) : Int) ((B + k + i : Nat) : Int) ((B + k + j : Nat) : Int) := fun j hj => by
        unfold stepM
        rw [hp j hj]
        congr 2
        by_cases e : j = i
        · subst e
          rw [if_pos (.inl rfl), if_pos (.inr rfl)]
        · rw [if_neg (by omega), if_neg (by omega)]
      obtain ⟨m', g2, h1, h2⟩ := ih (farM S (stepM m L ((B + i : Nat) : Int) ((B + k + i : Nat) : Int)) L).toNat (by omega) G' V' hp' rfl
      refine ⟨m', g2, fun z hz => ?_, h2⟩
      rw [h1 z hz]
      unfold stepM
      rw [if_neg (show ¬ (z = ((B + i : Nat) : Int) ∨ z = ((B + k + i : Nat) : Int)) by omega), Int.mul_zero, Int.add_zero]
theorem atF_append_left {A R : List Int} {z : Int} (h0 : 0 ≤ z) (h : z < A.length) : atF (A ++ R) z = atF A z := by
  unfold atF
  rw [List.getD_eq_getElem?_getD, List.getD_eq_getElem?_getD, List.getElem?_append_left (by omega)]
theorem atF_append_right {A R : List Int} {j : Nat} : atF (A ++ R) ((A.length + j : Nat) : Int) = atF R j := by
  unfold atF
  rw [List.getD_eq_getElem?_getD, List.getD_eq_getElem?_getD, Int.toNat_natCast, List.getElem?_append_right (by omega)]
  congr 2
  omega
theorem atF_rep {k j : Nat} {c : Int} (h : j < k) : atF (List.replicate k c) j = c := by
  unfold atF
  rw [List.getD_eq_getElem?_getD, Int.toNat_natCast, List.getElem?_replicate, if_pos h]
  rfl
theorem hasWeb_congr {n : Nat} {m m2 : Int → Int} (e : ∀ z : Int, 0 ≤ z ∧ z < n → m z = m2 z) : HasWeb n m noL ↔ HasWeb n m2 noL := by
  rw [hasWeb_gr, hasWeb_gr]
  exact ⟨fun ⟨g, G⟩ => ⟨g, G.congr fun z hz => e z (by have := mem_rangeI.mp hz; omega)⟩, fun ⟨g, G⟩ => ⟨g, G.congr fun z hz => (e z (by have := mem_rangeI.mp hz; omega)).symm⟩⟩
/-- rows of pairs come to trial rows -/
theorem pairs_trial {A p : List Int} (hA : 0 < A.length) (h : HasWeb (A.length + 2 * p.length) (atF (A ++ p ++ p)) noL) : ∃ L : Nat, L < A.length + 2 * p.length ∧ HasWeb (A.length + 2 * p.length) (atF (A ++ List.replicate (2 * p.length) (L : Int))) noL := by
  obtain ⟨g, G⟩ := hasWeb_gr.mp h
  have hn := rangeI_nodup 0 (A.length + 2 * p.length)
  have hne : rangeI 0 (A.length + 2 * p.length) ≠ [] := fun e => by
    have := congrArg List.length e
    rw [len_rangeI, List.length_nil] at this
    omega
  obtain ⟨L, V, hL⟩ := lev_ex (m := atF (A ++ p ++ p)) hne fun z hz => (G.bound hz).1
  rw [len_rangeI] at hL
  refine ⟨L, hL, ?_⟩
  obtain ⟨m', hg', h1, h2⟩ := pairs_level hn (B := A.length) (k := p.length) (fun i hi => ⟨mem_rangeI.mpr (by omega), mem_rangeI.mpr (by omega)⟩) _ G V (fun i hi => by
    rw [show ((A.length + p.length + i : Nat) : Int) = (((A ++ p).length + i : Nat) : Int) by rw [List.length_append], atF_append_right]
    rw [List.append_assoc, atF_append_right]
    exact atF_append_left (by omega) (by omega)) rfl
  refine (hasWeb_congr fun z hz => ?_).mp (hasWeb_gr.mpr hg')
  by_cases c : z < A.length
  · rw [h1 z c, List.append_assoc, atF_append_left hz.1 c, atF_append_left hz.1 c]
  · obtain ⟨j, rfl⟩ : ∃ j : Nat, z = ((A.length + j : Nat) : Int) := ⟨(z - A.length).toNat, by omega⟩
    have hj : j < 2 * p.length := by omega
    rw [atF_append_right, atF_rep hj]
    by_cases c2 : j < p.length
    · exact (h2 j c2).1
    · have := (h2 (j - p.length) (by omega)).2
      rw [show A.length + p.length + (j - p.length) = A.length + j by omega] at this
      exact this
/-! ### rows in another order, and the contrary ones -/
theorem downF_eq {a b : List Int} (h : a.Perm b) : downF a = downF b := by
  unfold downF
  congr 1
  exact srt_eq tot_lti ((srtB_perm false lti a).trans h) (srt_sorted tot_lti a)
end Dt

namespace Dt
open PySem PySem.Spec
/-! ### numbers that three may have -/
def trialI (m : Nat) (l : List Int) (d c : Int) : List Int := l ++ [d, d] ++ List.replicate ((m : Int) - l.length - 2).toNat c
/-- what is wanted of an odd set -/
def OddC (n : Nat) (C : List Int) : Prop := (∀ x ∈ C, 0 ≤ x ∧ x < n) ∧ ∃ r, C.length + 2 * (r + 1) = n
theorem OddC.le {n : Nat} {C : List Int} (h : OddC n C) : C.length + 2 ≤ n := by obtain ⟨_, r, h⟩ := h; omega
/-- three may have a number -/
def Thr (n : Nat) (C : List Int) (d : Int) : Prop := ∃ c : Nat, c < n ∧ HasWeb n (atF (trialI n C d c)) noL
noncomputable instance (n : Nat) (C : List Int) (d : Int) : Decidable (Thr n C d) := Classical.propDecidable _
/-- ascending tuples of so many numbers -/
def ascL (m : Nat) : Nat → List (List Int)
  | 0 => [[]]
  | k + 1 => (ascL m k).flatMap fun own => (rangeI (own.getLastD 0) ((m : Int) - own.getLastD 0).toNat).map fun d => own ++ [d]
theorem ascL_in {m : Nat} : ∀ {k : Nat} {p : List Int}, p ∈ ascL m k → p.length = k ∧ ∀ z ∈ p, 0 ≤ z ∧ z < m
  | 0, p, h => by
    have : p = [] := by simpa [ascL] using h
    subst this
    exact ⟨rfl, fun z hz => nomatch hz⟩
  | k + 1, p, h => by
    unfold ascL at h
    obtain ⟨own, ho, h⟩ := List.mem_flatMap.mp h
    obtain ⟨d, hd, rfl⟩ := List.mem_map.mp h
    obtain ⟨h1, h2⟩ := ascL_in ho
    have hd := mem_rangeI.mp hd
    have hl : 0 ≤ own.getLastD 0 := by
      rcases List.eq_nil_or_concat own with rfl | ⟨l, x, rfl⟩
      · exact Int.le_refl _
      · rw [List.concat_eq_append, List.getLastD_concat]
        exact (h2 x (by simp)).1
    refine ⟨by rw [List.length_append, h1]; rfl, fun z hz => ?_⟩
    rcases List.mem_append.mp hz with hz | hz
    · exact h2 z hz
    · have : z = d := by simpa using hz
      omega
theorem ascL_rep {m : Nat} {c : Int} (hc : 0 ≤ c ∧ c < m) : ∀ k : Nat, List.replicate k c ∈ ascL m k
  | 0 => by simp [ascL]
  | k + 1 => by
    unfold ascL
    refine List.mem_flatMap.mpr ⟨_, ascL_rep hc k, List.mem_map.mpr ⟨c, mem_rangeI.mpr ?_, List.replicate_succ'.symm⟩⟩
    have : (List.replicate k c).getLastD 0 = 0 ∨ (List.replicate k c).getLastD 0 = c := by
      cases k with
      | zero => exact .inl rfl
      | succ k => right; rw [List.replicate_succ', List.getLastD_concat]
    omega
/-- a row of pairs -/
def pairRow (C : List Int) (d : Int) (p : List Int) : List Int := C ++ [d, d] ++ p ++ p
theorem rep_two {k : Nat} {c : Int} : List.replicate k c ++ List.replicate k c = List.replicate (2 * k) c := by
  rw [List.replicate_append_replicate]
  congr 1
  omega
theorem thr_iff {n : Nat} {C : List Int} {r : Nat} (hC : ∀ x ∈ C, 0 ≤ x ∧ x < n) (hr : C.length + 2 * (r + 1) = n) {d : Int} (hd : 0 ≤ d ∧ d < n) : (∃ p ∈ ascL n r, fitsR (downF (pairRow C d p))) ↔ Thr n C d := by
  have hin : ∀ p ∈ ascL n r, (pairRow C d p).length = n ∧ ∀ z ∈ pairRow C d p, 0 ≤ z := fun p hp => by
    obtain ⟨h1, h2⟩ := ascL_in hp
    refine ⟨?_, fun z hz => ?_⟩
    · unfold pairRow
      simp only [List.length_append, List.length_cons, List.length_nil]
      omega
    · unfold pairRow at hz
      simp only [List.mem_append, List.mem_cons, List.not_mem_nil, or_false] at hz
      rcases hz with ((hz | hz | hz) | hz) | hz
      · exact (hC z hz).1
      · rw [hz]; exact hd.1
      · rw [hz]; exact hd.1
      · exact (h2 z hz).1
      · exact (h2 z hz).1
  have eT : ∀ c : Int, trialI n C d c = (C ++ [d, d]) ++ List.replicate (2 * r) c := fun c => by
    unfold trialI
    congr 2
    omega
  have hAl : (C ++ [d, d]).length + 2 * r = n := by
    rw [List.length_append]
    simp only [List.length_cons, List.length_nil]
    omega
  constructor
  · rintro ⟨p, hp, hf⟩
    obtain ⟨h1, h2⟩ := hin p hp
    have hw := (web_iff_fits h2).mpr hf
    rw [h1] at hw
    have hpl := (ascL_in hp).1
    obtain ⟨L, hL, hw2⟩ := pairs_trial (A := C ++ [d, d]) (p := p) (by rw [List.length_append]; simp only [List.length_cons, List.length_nil]; omega) (by rw [hpl, hAl]; exact hw)
    rw [hpl, hAl] at hw2 hL
    exact ⟨L, hL, by rw [eT]; exact hw2⟩
  · rintro ⟨c, hc, hw⟩
    have hm := ascL_rep (m := n) (c := c) (by omega) r
    refine ⟨_, hm, ?_⟩
    obtain ⟨h1, h2⟩ := hin _ hm
    refine (web_iff_fits h2).mp ?_
    rw [h1]
    rw [eT] at hw
    unfold pairRow
    rw [List.append_assoc (C ++ [d, d]), rep_two]
    exact hw
/-- the locked ones -/
noncomputable def lockedL (n : Nat) (C : List Int) : List Int := C.filter fun d => !decide (Thr n C d)
end Dt

namespace Dt
open PySem PySem.Spec PyProof.Rows L2
/-! ### set(t), t a tuple of tuples of ints -/
abbrev sObj (w : World) : Obj :=
  { cls := .type "set", dict := none,
    data := .set #[] 0 (.fresh 0 0 (!w.params.followText "set-order")) }
abbrev sHp (w : World) (h : Heap) : Heap := h.push (sObj w)
section
variable {P : Program} {w : World} {A : Around} {E : Value → Shared → Prop} {s : Shared}
end
end Dt

namespace Dt
open PySem PySem.Spec PyProof.Rows L2
/-! ### sorted(set(t)), t a tuple of pairs of people -/
end Dt

namespace Dt
open PySem PySem.Spec PyProof.Rows L2
/-- people below 64, by twos -/
def Low (x : List Int) : Prop := ∃ a b : Int, x = [a, b] ∧ (0 ≤ a ∧ a < 64) ∧ (0 ≤ b ∧ b < 64)
section
variable {X : Cx}
end
/-- sorted(set(t)), t a tuple of pairs of people -/
def gSSP (g : DE) : DE := fun ρ Q => g ρ fun q r ρ1 => ∃ ls : List Ln, r.seq ρ1 = some (false, ls.map lnD) ∧ (∀ p ∈ ls, Low (toL p)) ∧ ls.length < 64 ∧ Q q (.fr (.lst ((srt ltl (ddF (ls.map toL))).map tI))) ρ1
theorem gSSP_i {ρ : Env} {Q : Bool → Res → Env → Prop} {g : DE} (h : g ρ fun q r ρ1 => ∃ ls : List Ln, r.seq ρ1 = some (false, ls.map lnD) ∧ (∀ p ∈ ls, Low (toL p)) ∧ ls.length < 64 ∧ Q q (.fr (.lst ((srt ltl (ddF (ls.map toL))).map tI))) ρ1) : gSSP g ρ Q := h
end Dt

namespace Dt
open PySem PySem.Spec PyProof.Rows L2
/-! ### d == 1, d a dict -/
open PySem.AutoSeq1 in
section
variable {P : Program} {w : World} {A : Around} {E : Value → Shared → Prop} {s : Shared}
end
/-! ### == of anything with an int -/
end Dt

namespace Dt
open PySem PySem.Spec
/-! ### each odd set is a web's: all others with one number -/
def sumN : List Nat → Nat
  | [] => 0
  | a :: l => Nat.add a (sumN l)
end Dt

namespace Dt
open PySem PySem.Spec
def cast (l : List Nat) : List Int := l.map fun x : Nat => (x : Int)
theorem cast_sum : ∀ l : List Nat, (cast l).sum = (sumN l : Int)
  | [] => rfl
  | a :: l => by
    show ((a : Int) :: cast l).sum = ((a + sumN l : Nat) : Int)
    rw [List.sum_cons, cast_sum l]
    omega
end Dt

namespace Dt
open PySem PySem.Spec
/-- what an odd set is -/
structure OddS (n : Nat) (C : List Int) : Prop where
  sub : C.Sublist (rangeI 0 n)
  par : ((n : Int) + (C.length : Nat)) % 2 = 0
  even : C.sum % 2 = 0
  ends : ¬ ((0 : Int) ∈ C ∧ (n : Int) - 1 ∈ C)
theorem head_minC : ∀ {C : List Int} {x : Int}, C.Pairwise (· < ·) → x ∈ C → (∀ z ∈ C, x ≤ z) → C.head? = some x
  | a :: l, x, h, hx, hm => by
    rcases List.mem_cons.mp hx with rfl | hx
    · rfl
    · have := (List.pairwise_cons.mp h).1 x hx
      have := hm a (List.mem_cons_self ..)
      omega
theorem last_maxC {C : List Int} {x : Int} (h : C.Pairwise (· < ·)) (hx : x ∈ C) (hm : ∀ z ∈ C, z ≤ x) : C.getLast? = some x := by
  rcases List.eq_nil_or_concat C with rfl | ⟨l, y, rfl⟩
  · cases hx
  · rw [List.concat_eq_append] at *
    rw [List.getLast?_append]
    rw [List.pairwise_append] at h
    rcases List.mem_append.mp hx with hx | hx
    · have := h.2.2 x hx y (List.mem_singleton.mpr rfl)
      have := hm y (by simp)
      omega
    · rw [List.mem_singleton.mp hx]
      rfl
theorem OddS.of {n : Nat} {C : List Int} (hs : C.Sublist (rangeI 0 n)) (h : setE n (tI C) = .none) : OddS n C := by
  have hlt := (rangeI_lt 0 n).sublist hs
  have hb : ∀ z ∈ C, 0 ≤ z ∧ z < n := fun z hz => by have := mem_rangeI.mp (hs.subset hz); omega
  rw [show tI C = .tuple (C.map .int) from rfl, setE_yes (ints_risD (fun d hd => by have := hb d hd; omega) hlt)] at h
  unfold setWrong at h
  split at h
  · cases h
  · split at h
    · cases h
    · split at h
      · cases h
      · rename_i h1 h2 h3
        refine ⟨hs, by omega, by omega, fun e => h3 ⟨head_minC hlt e.1 fun z hz => (hb z hz).1, last_maxC hlt e.2 fun z hz => by have := hb z hz; omega⟩⟩
end Dt

namespace Dt
open PySem PySem.Spec PyProof.Rows L2 LamX
section
variable {X : Cx} {pins : List (Addr × Obj)} {σ : L2.St} {H : Hp} {s : Shared}
end
/-! ### t[i], t a captured tuple of ints -/
section
variable {P : Program} {w : World} {A : Around} {env : PySem.Env} {e : Expr} {h : Heap} {i j : Int} {pos p1 p2 : Pos}
end
section
variable {X : Cx} {σ : L2.St} {H : Hp} {scope : Scope} {x D : Str} {j : Nat} {d : Addr} {is : List Int} {i : Int} {p1 p2 p3 p4 p5 p6 : Pos} {x1 : Nat}
end
end Dt

namespace Dt
open PySem PySem.Spec PyProof.Rows L2 LamX
section
variable {P : Program} {w : World} {A : Around} {E : Value → Shared → Prop} {s : Shared}
end
section
variable {X : Cx} {T : List (Addr × Str)} {params : Arguments} {body : Expr} {scope : Scope} {x : Str}
end
/-- sorted(range(n), key=lambda x: (-t[x], x)), t in slot j -/
def gSortRg (j : Nat) (g : DE) : DE := fun ρ Q => g ρ fun q r ρ1 => ok (asI r) fun k => ∃ (row : List Int) (n : Nat), k = (n : Int) ∧ n ≤ row.length ∧ n ≤ 1000 ∧ ρ1[j]? = some (some (.fr (tI row))) ∧ Q q (.fr (.lst (((rangeI 0 n).mergeSort (downLe (atF row))).map .int))) ρ1
theorem gSortRg_i {j : Nat} {g : DE} {ρ : Env} {Q : Bool → Res → Env → Prop} (h : g ρ fun q r ρ1 => ok (asI r) fun k => ∃ (row : List Int) (n : Nat), k = (n : Int) ∧ n ≤ row.length ∧ n ≤ 1000 ∧ ρ1[j]? = some (some (.fr (tI row))) ∧ Q q (.fr (.lst (((rangeI 0 n).mergeSort (downLe (atF row))).map .int))) ρ1) : gSortRg j g ρ Q := h
section
variable {X : Cx} {pv : Pins} {params : Arguments} {scope : Scope} {x D nm : Str} {j : Nat} {e : Expr} {g : DE} {p p1 p2 p3 p4 p5 p6 pr ppr kpos lpos pos : Pos} {x1 : Nat}
end
end Dt

namespace Dt
open PySem PySem.Spec
/-! ### the bar that is found: the k greatest ones as high, the others below k as low -/
def orderL (row : List Int) : List Int := (rangeI 0 row.length).mergeSort (downLe (atF row))
def hiB (row : List Int) (k : Nat) : List Int := srt lti ((orderL row).take k)
def loB (row : List Int) (k : Nat) : List Int := srt lti (((orderL row).drop k).filter fun p => decide (atF row p < (k : Int)))
def barK (row : List Int) : Option Nat := (List.range row.length).find? fun j => tooMuch row (hiB row (j + 1)) (loB row (j + 1))
def barF (row : List Int) : PyData :=
  if row.sum % 2 = 1 then .str "odd" else match barK row with
  | some j => .tuple [tI (hiB row (j + 1)), tI (loB row (j + 1))]
  | none => .none
theorem orderL_perm (row : List Int) : (orderL row).Perm (rangeI 0 row.length) := List.mergeSort_perm _ _
theorem orderL_nodup (row : List Int) : (orderL row).Nodup := (orderL_perm row).nodup_iff.mpr (rangeI_nodup 0 row.length)
theorem orderL_len (row : List Int) : (orderL row).length = row.length := by rw [(orderL_perm row).length_eq, len_rangeI]
theorem mem_orderL {row : List Int} {p : Int} : p ∈ orderL row ↔ 0 ≤ p ∧ p < row.length := by
  rw [(orderL_perm row).mem_iff, mem_rangeI]
  omega
theorem nodup_srt_lt {l : List Int} (h : l.Nodup) : (srt lti l).Pairwise (· < ·) := by
  have h1 := srt_sorted tot_lti l
  have h2 : (srt lti l).Nodup := (srt_perm lti l).nodup_iff.mpr h
  have h3 : (srt lti l).Pairwise (fun a b => lti b a = false ∧ a ≠ b) := List.Pairwise.and h1 h2
  exact h3.imp fun {a b} h => by
    have := of_decide_eq_false h.1
    have := h.2
    omega
theorem mem_hiB {row : List Int} {k : Nat} {p : Int} : p ∈ hiB row k ↔ p ∈ (orderL row).take k := (srt_perm lti _).mem_iff
theorem mem_loB {row : List Int} {k : Nat} {p : Int} : p ∈ loB row k ↔ p ∈ (orderL row).drop k ∧ atF row p < (k : Int) := by
  unfold loB
  rw [(srt_perm lti _).mem_iff, List.mem_filter, decide_eq_true_eq]
theorem hiB_lt (row : List Int) (k : Nat) : (hiB row k).Pairwise (· < ·) := nodup_srt_lt (List.Nodup.sublist (List.take_sublist _ _) (orderL_nodup row))
theorem loB_lt (row : List Int) (k : Nat) : (loB row k).Pairwise (· < ·) := nodup_srt_lt (List.Nodup.sublist (List.filter_sublist.trans (List.drop_sublist _ _)) (orderL_nodup row))
theorem hiB_in {row : List Int} {k : Nat} : ∀ p ∈ hiB row k, 0 ≤ p ∧ p < row.length := fun p h => mem_orderL.mp (List.mem_of_mem_take (mem_hiB.mp h))
theorem loB_in {row : List Int} {k : Nat} : ∀ p ∈ loB row k, 0 ≤ p ∧ p < row.length := fun p h => mem_orderL.mp (List.mem_of_mem_drop (mem_loB.mp h).1)
theorem hi_lo {row : List Int} {k : Nat} {p : Int} (h : p ∈ hiB row k) : p ∉ loB row k := fun h2 => by
  have hn := orderL_nodup row
  rw [← List.take_append_drop k (orderL row), List.nodup_append] at hn
  exact hn.2.2 p (mem_hiB.mp h) p (mem_loB.mp h2).1 rfl
theorem hiB_len {row : List Int} {k : Nat} (h : k ≤ row.length) : (hiB row k).length = k := by
  unfold hiB
  rw [(srt_perm lti _).length_eq, List.length_take, orderL_len]
  omega
theorem sumAt_map (row l : List Int) : sumAt row l = (l.map (atF row)).sum := rfl
theorem sumAt_perm {row a b : List Int} (h : a.Perm b) : sumAt row a = sumAt row b := by
  rw [sumAt_map, sumAt_map]
  exact sum_perm (h.map _)
theorem min_split (k : Int) : ∀ l : List Int, (l.map fun z => min z k).sum = ((l.filter fun z => decide (z < k)).sum) + k * ((l.length : Int) - ((l.filter fun z => decide (z < k)).length : Int))
  | [] => by simp
  | a :: l => by
    have ih := min_split k l
    rw [List.map_cons, List.sum_cons, ih, List.filter_cons]
    by_cases h : a < k
    · rw [if_pos (by simpa using h), List.sum_cons, List.length_cons, List.length_cons, Int.min_eq_left (by omega)]
      have : ((l.length + 1 : Nat) : Int) - (((List.filter (fun z => decide (z < k)) l).length + 1 : Nat) : Int) = (l.length : Int) - ((List.filter (fun z => decide (z < k)) l).length : Int) := by omega
      rw [this]
      omega
    · rw [if_neg (by simpa using h), List.length_cons, Int.min_eq_right (by omega)]
      have : ((l.length + 1 : Nat) : Int) - ((List.filter (fun z => decide (z < k)) l).length : Int) = ((l.length : Int) - ((List.filter (fun z => decide (z < k)) l).length : Int)) + 1 := by omega
      rw [this, Int.mul_add]
      omega
theorem filter_map_at (row : List Int) (k : Int) (l : List Int) : ((l.filter fun p => decide (atF row p < k)).map (atF row)) = (l.map (atF row)).filter fun z => decide (z < k) := by
  rw [List.filter_map]
  rfl
/-- too much is wanted just where the law's count says so -/
theorem tooMuch_okAt {row : List Int} {k : Nat} (h : k ≤ row.length) : tooMuch row (hiB row k) (loB row k) = true ↔ ¬ okAt (downF row) k := by
  unfold tooMuch okAt
  rw [decide_eq_true_eq, Int.not_le, hiB_len h]
  have e1 : sumAt row (hiB row k) = ((downF row).take k).sum := by
    unfold hiB
    rw [sumAt_perm (srt_perm lti _), sumAt_map, List.map_take]
    show (List.take k (((rangeI 0 row.length).mergeSort (downLe (atF row))).map (atF row))).sum = _
    rw [downF_map]
  have ed : ((orderL row).drop k).map (atF row) = (downF row).drop k := by
    rw [List.map_drop]
    show (List.drop k (((rangeI 0 row.length).mergeSort (downLe (atF row))).map (atF row))) = _
    rw [downF_map]
  have e2 : sumAt row (loB row k) = (((downF row).drop k).filter fun z => decide (z < (k : Int))).sum := by
    unfold loB
    rw [sumAt_perm (srt_perm lti _), sumAt_map, filter_map_at, ed]
  have e3 : (loB row k).length = (((downF row).drop k).filter fun z => decide (z < (k : Int))).length := by
    unfold loB
    rw [(srt_perm lti _).length_eq, ← List.length_map (atF row), filter_map_at, ed]
  rw [e1, e2, e3, min_split, List.length_drop, downF_len]
  generalize ((downF row).take k).sum = A
  generalize (((downF row).drop k).filter fun z => decide (z < (k : Int))).sum = B
  generalize (((downF row).drop k).filter fun z => decide (z < (k : Int))).length = c
  have e4 : (k : Int) * ((k : Int) - 1) + (B + (k : Int) * (((row.length - k : Nat) : Int) - (c : Int))) = (k : Int) * ((row.length : Int) - 1 - (c : Int)) + B := by
    rw [show ((row.length - k : Nat) : Int) = (row.length : Int) - k by omega, show (row.length : Int) - 1 - (c : Int) = ((k : Int) - 1) + ((row.length : Int) - k - c) by omega, Int.mul_add]
    omega
  rw [e4]
  omega
theorem okAt_zero {f : List Int} (h0 : ∀ z ∈ f, 0 ≤ z) : okAt f 0 := by
  unfold okAt
  have : 0 ≤ ((f.drop 0).map fun z => min z ((0 : Nat) : Int)).sum := by
    have := sumF_nn (S := f.drop 0) (m := fun z => min z ((0 : Nat) : Int)) fun z hz => by have := h0 z (List.mem_of_mem_drop hz); omega
    exact this
  simp at this ⊢
  omega
theorem barK_none {row : List Int} (h0 : ∀ z ∈ row, 0 ≤ z) : barK row = none ↔ ∀ k, k ≤ (downF row).length → okAt (downF row) k := by
  unfold barK
  rw [List.find?_eq_none, downF_len]
  constructor
  · intro h k hk
    cases k with
    | zero => exact okAt_zero fun z hz => h0 z ((downF_perm row).mem_iff.mp hz)
    | succ j =>
      by_cases e : okAt (downF row) (j + 1)
      · exact e
      · exact absurd ((tooMuch_okAt hk).mpr e) (h j (List.mem_range.mpr (by omega)))
  · intro h j hj c
    have hj := List.mem_range.mp hj
    exact (tooMuch_okAt (by omega)).mp c (h (j + 1) (by omega))
/-- no bar just of webs' rows -/
theorem barF_none {row : List Int} (h0 : ∀ z ∈ row, 0 ≤ z) : barF row = .none ↔ fitsR (downF row) := by
  have ed : (downF row).sum = row.sum := sum_perm (downF_perm row)
  unfold barF fitsR
  rw [ed, ← barK_none h0]
  by_cases c : row.sum % 2 = 1
  · rw [if_pos c]
    constructor
    · intro h; cases h
    · intro h; omega
  · rw [if_neg c]
    cases barK row with
    | none => exact ⟨fun _ => ⟨by omega, rfl⟩, fun _ => rfl⟩
    | some j => exact ⟨fun h => (by cases h), fun h => (by cases h.2)⟩
/-- what a bar of two lots is -/
structure TwoLots (row hi lo : List Int) : Prop where
  hi_lt : hi.Pairwise (· < ·)
  lo_lt : lo.Pairwise (· < ·)
  hi_in : ∀ p ∈ hi, 0 ≤ p ∧ p < row.length
  lo_in : ∀ p ∈ lo, 0 ≤ p ∧ p < row.length
  apart : ∀ p ∈ hi, p ∉ lo
  much : tooMuch row hi lo = true
theorem lt_len : ∀ {l : List Int} {a b : Int}, l.Pairwise (· < ·) → (∀ p ∈ l, a ≤ p ∧ p < b) → a ≤ b → (l.length : Int) ≤ b - a
  | [], a, b, _, _, h => by simp; omega
  | x :: l, a, b, hp, hi, h => by
    have hp2 := List.pairwise_cons.mp hp
    have hx := hi x List.mem_cons_self
    have := lt_len (l := l) (a := x + 1) (b := b) hp2.2 (fun p hpp => ⟨by have := hp2.1 p hpp; omega, (hi p (List.mem_cons_of_mem _ hpp)).2⟩) (by omega)
    rw [List.length_cons]
    omega
theorem TwoLots.lens {row hi lo : List Int} (h : TwoLots row hi lo) : hi.length ≤ row.length ∧ lo.length ≤ row.length := by
  have a := lt_len h.hi_lt h.hi_in (by omega)
  have b := lt_len h.lo_lt h.lo_in (by omega)
  omega
theorem barF_cases {row : List Int} (h0 : ∀ z ∈ row, 0 ≤ z) : (barF row = .none ∧ fitsR (downF row)) ∨ (barF row = .str "odd" ∧ ¬ fitsR (downF row) ∧ row.sum % 2 = 1) ∨ ∃ hi lo, barF row = .tuple [tI hi, tI lo] ∧ ¬ fitsR (downF row) ∧ TwoLots row hi lo := by
  have hb := barF_none h0
  by_cases c : row.sum % 2 = 1
  · have e : barF row = .str "odd" := by unfold barF; rw [if_pos c]
    exact .inr (.inl ⟨e, (fun h => by rw [hb.mpr h] at e; cases e), c⟩)
  · cases hk : barK row with
    | none =>
      have e : barF row = .none := by unfold barF; rw [if_neg c, hk]
      exact .inl ⟨e, hb.mp e⟩
    | some j =>
      have e : barF row = .tuple [tI (hiB row (j + 1)), tI (loB row (j + 1))] := by unfold barF; rw [if_neg c, hk]
      refine .inr (.inr ⟨_, _, e, (fun h => by rw [hb.mpr h] at e; cases e), hiB_lt row _, loB_lt row _, hiB_in, loB_in, fun p => hi_lo, ?_⟩)
      exact List.find?_some (p := fun j => tooMuch row (hiB row (j + 1)) (loB row (j + 1))) hk
theorem TwoLots.form {row hi lo : List Int} (h : TwoLots row hi lo) : barDue row (.tuple [tI hi, tI lo]) = .none := by
  have l1 : isLot row.length (tI hi) = true := ints_risD (fun p hp => by have := h.hi_in p hp; omega) h.hi_lt
  have l2 : isLot row.length (tI lo) = true := ints_risD (fun p hp => by have := h.lo_in p hp; omega) h.lo_lt
  have f := isForm_ints l1 l2
  have f2 : isForm row.length (.tuple [tI hi, tI lo]) = true := by
    rw [show PyData.tuple [tI hi, tI lo] = .tuple [.tuple (hi.map .int), .tuple (lo.map .int)] from rfl, f, List.all_eq_true]
    intro p hp
    simpa using h.apart p hp
  have e : lotsOf (.tuple [tI hi, tI lo]) = (hi, lo) := by
    show ((intsOf (hi.map .int)).getD [], (intsOf (lo.map .int)).getD []) = _
    rw [intsOf_map, intsOf_map]
    rfl
  unfold barDue
  rw [if_neg (show ¬ isOddS (.tuple [tI hi, tI lo]) = true from Bool.false_ne_true), if_pos f2, e, if_pos h.much]
end Dt

namespace Dt
open PySem PySem.Spec
/-! ### all rows of an odd set: by pairs, and by going through all descending ones -/
theorem getLastD_mem {l : List Int} {x : Int} (h : l ≠ []) : l.getLastD x ∈ l := by
  rcases List.eq_nil_or_concat l with rfl | ⟨k, y, rfl⟩
  · exact absurd rfl h
  · rw [List.concat_eq_append, List.getLastD_concat]
    simp
theorem asc_last {l : List Int} (h : l.Pairwise (· ≤ ·)) {z x : Int} (hz : z ∈ l) : z ≤ l.getLastD x := by
  rcases List.eq_nil_or_concat l with rfl | ⟨k, y, rfl⟩
  · cases hz
  · rw [List.concat_eq_append] at *
    rw [List.getLastD_concat]
    have hp := (List.pairwise_append.mp h).2.2
    rcases List.mem_append.mp hz with hz | hz
    · exact hp z hz y (by simp)
    · rw [List.mem_singleton.mp hz]; exact Int.le_refl _
theorem pair_snoc {R : Int → Int → Prop} {l : List Int} {d : Int} : (l ++ [d]).Pairwise R ↔ l.Pairwise R ∧ ∀ z ∈ l, R z d := by
  rw [List.pairwise_append]
  constructor
  · rintro ⟨h1, _, h3⟩
    exact ⟨h1, fun z hz => h3 z hz d (by simp)⟩
  · rintro ⟨h1, h3⟩
    refine ⟨h1, List.pairwise_cons.mpr ⟨fun a h => (nomatch h), .nil⟩, fun z hz b hb => ?_⟩
    rw [List.mem_singleton.mp hb]
    exact h3 z hz
theorem mem_ascL {m : Nat} : ∀ {k : Nat} {p : List Int}, p ∈ ascL m k ↔ p.length = k ∧ (∀ z ∈ p, 0 ≤ z ∧ z < m) ∧ p.Pairwise (· ≤ ·)
  | 0, p => by
    constructor
    · intro h
      have : p = [] := by simpa [ascL] using h
      subst this
      exact ⟨rfl, fun z hz => (nomatch hz), .nil⟩
    · rintro ⟨h, -⟩
      have := List.eq_nil_of_length_eq_zero h
      subst this
      simp [ascL]
  | k + 1, p => by
    unfold ascL
    rw [List.mem_flatMap]
    constructor
    · rintro ⟨own, ho, h⟩
      obtain ⟨d, hd, rfl⟩ := List.mem_map.mp h
      obtain ⟨h1, h2, h3⟩ := mem_ascL.mp ho
      have hd := mem_rangeI.mp hd
      have hl : 0 ≤ own.getLastD 0 := by
        by_cases e : own = []
        · subst e; exact Int.le_refl _
        · exact (h2 _ (getLastD_mem e)).1
      refine ⟨by rw [List.length_append, h1]; rfl, fun z hz => ?_, pair_snoc.mpr ⟨h3, fun z hz => Int.le_trans (asc_last (x := 0) h3 hz) hd.1⟩⟩
      rcases List.mem_append.mp hz with hz | hz
      · exact h2 z hz
      · have : z = d := by simpa using hz
        omega
    · rintro ⟨h1, h2, h3⟩
      rcases List.eq_nil_or_concat p with rfl | ⟨own, d, rfl⟩
      · cases h1
      · rw [List.concat_eq_append] at *
        have hp := pair_snoc.mp h3
        have hd := h2 d (by simp)
        refine ⟨own, mem_ascL.mpr ⟨by rw [List.length_append] at h1; simpa using h1, fun z hz => h2 z (List.mem_append_left _ hz), hp.1⟩, List.mem_map.mpr ⟨d, mem_rangeI.mpr ?_, rfl⟩⟩
        have : own.getLastD 0 ≤ d := by
          by_cases e : own = []
          · subst e; exact hd.1
          · exact hp.2 _ (getLastD_mem e)
        omega
/-! #### rows by pairs -/
/-- half of each number -/
def halfL (n : Nat) (row : List Int) : List Int := (rangeI 0 n).flatMap fun v => List.replicate (row.count v / 2) v
theorem count_flat (c : Int → Nat) (v : Int) : ∀ l : List Int, l.Nodup → (l.flatMap fun x => List.replicate (c x) x).count v = if v ∈ l then c v else 0
  | [], _ => by simp
  | a :: l, h => by
    have h2 := List.nodup_cons.mp h
    rw [List.flatMap_cons, List.count_append, count_flat c v l h2.2, List.count_replicate]
    by_cases e : a = v
    · subst e
      rw [if_neg h2.1]
      simp
    · have e2 : (a == v) = false := by simpa using e
      rw [if_neg (by rw [e2]; decide)]
      by_cases hv : v ∈ l
      · rw [if_pos hv, if_pos (List.mem_cons_of_mem _ hv)]; omega
      · rw [if_neg hv, if_neg (fun z => by rcases List.mem_cons.mp z with z | z; exact e z.symm; exact hv z)]
theorem halfL_asc (row : List Int) (lo : Int) : ∀ n : Nat, ((rangeI lo n).flatMap fun v => List.replicate (row.count v / 2) v).Pairwise (· ≤ ·) := fun n => by
  have key : ∀ l : List Int, l.Pairwise (· < ·) → (l.flatMap fun v => List.replicate (row.count v / 2) v).Pairwise (· ≤ ·) := by
    intro l
    induction l with
    | nil => exact fun _ => .nil
    | cons a l ih =>
      intro h
      have h2 := List.pairwise_cons.mp h
      rw [List.flatMap_cons, List.pairwise_append]
      refine ⟨List.pairwise_replicate.mpr (.inr (Int.le_refl _)), ih h2.2, fun x hx y hy => ?_⟩
      rw [List.eq_of_mem_replicate hx]
      obtain ⟨v, hv, hy⟩ := List.mem_flatMap.mp hy
      rw [List.eq_of_mem_replicate hy]
      have := h2.1 v hv
      omega
  exact key _ (rangeI_lt lo n)
theorem halfL_in (n : Nat) (row : List Int) : ∀ z ∈ halfL n row, 0 ≤ z ∧ z < n := fun z hz => by
  obtain ⟨v, hv, hz⟩ := List.mem_flatMap.mp hz
  rw [List.eq_of_mem_replicate hz]
  have := mem_rangeI.mp hv
  omega
theorem count_range {n : Nat} {l : List Int} (h : ∀ z ∈ l, 0 ≤ z ∧ z < n) {v : Int} (hv : ¬ (0 ≤ v ∧ v < n)) : l.count v = 0 := List.count_eq_zero_of_not_mem fun z => hv (h v z)
/-- a row is its odd set and two halves -/
theorem row_halves {n : Nat} {row C : List Int} (hb : ∀ z ∈ row, 0 ≤ z ∧ z < n) (e : oddsL n row = C) : row.Perm (C ++ halfL n row ++ halfL n row) := by
  have hC : ∀ z ∈ C, 0 ≤ z ∧ z < n := fun z hz => by rw [← e] at hz; exact (mem_oddsL.mp hz).1
  refine List.perm_iff_count.mpr fun v => ?_
  rw [List.count_append, List.count_append]
  by_cases hv : 0 ≤ v ∧ v < n
  · have h1 : (halfL n row).count v = row.count v / 2 := by
      unfold halfL
      rw [count_flat (fun v => row.count v / 2) v _ (rangeI_nodup 0 n), if_pos (mem_rangeI.mpr (by omega))]
    have nd : C.Nodup := by rw [← e]; exact (oddsL_lt n row).imp fun h => by omega
    have h2 : C.count v = row.count v % 2 := by
      by_cases hc : v ∈ C
      · have a := List.nodup_iff_count.mp nd v
        have b := List.count_pos_iff.mpr hc
        have c : v ∈ oddsL n row := by rw [e]; exact hc
        have := (mem_oddsL.mp c).2
        omega
      · rw [List.count_eq_zero_of_not_mem hc]
        have : ¬ row.count v % 2 = 1 := fun z => hc (by rw [← e]; exact mem_oddsL.mpr ⟨hv, z⟩)
        omega
    omega
  · rw [count_range hb hv, count_range hC hv, count_range (halfL_in n row) hv]
end Dt
namespace Dt
end Dt
namespace Dt
end Dt

namespace Dt
open PySem PySem.Spec PyProof.Rows L2 TL
/-! ### texts told of tuples begin with a bracket -/
end Dt

namespace Dt
open PySem PySem.Spec PyProof.Rows L2 PySem.W
/-! ### min, max of pairs: a row's sum, the row -/
end Dt
namespace Dt
open PySem PySem.Spec PyProof.Rows
end Dt

namespace Dt
open PySem PySem.Spec PyProof.Rows
/-! ### papers of locked numbers -/
/-- a bar, as a value -/
def IsBar (row : List Int) (d : PyData) : Prop := (d = .str "odd" ∧ row.sum % 2 = 1) ∨ ∃ hi lo, d = .tuple [tI hi, tI lo] ∧ TwoLots row hi lo
theorem IsBar.of {row : List Int} (h0 : ∀ z ∈ row, 0 ≤ z) (h : ¬ fitsR (downF row)) : IsBar row (barF row) := by
  rcases barF_cases h0 with ⟨_, c⟩ | ⟨e, _, hs⟩ | ⟨hi, lo, e, _, T⟩
  · exact absurd c h
  · exact .inl ⟨e, hs⟩
  · exact .inr ⟨hi, lo, e, T⟩
theorem IsBar.lay {row : List Int} {d : PyData} (h : IsBar row d) : layS d := by
  rcases h with ⟨rfl, hs⟩ | ⟨hi, lo, rfl, T⟩
  · exact (Signs.lit _).ok
  · exact trivial
theorem Tl.tI {l : List Int} {k : Nat} {n : Nat} (h : ∀ p ∈ l, 0 ≤ p ∧ p < (n : Int)) (hn : n ≤ 1000) (hl : l.length ≤ k) : Tl 2 k (Dt.tI l) := Tl.tuple (TlA.ints (fun i hi => by have := h i hi; omega) k hl)
theorem Tl.bar {row : List Int} {d : PyData} (hl : row.length ≤ 10) (h : IsBar row d) : Tl 3 100 d := by
  rcases h with ⟨rfl, hs⟩ | ⟨hi, lo, rfl, T⟩
  · exact (Tl.word "odd" (by decide +kernel)).mono (by omega) (by omega)
  · have hll := T.lens
    exact (Tl.tuple (TlA.cons (Tl.tI (k := 10) T.hi_in (by omega) (by omega)) (TlA.cons (Tl.tI (k := 10) T.lo_in (by omega) (by omega)) .nil))).mono (by omega) (by omega)
end Dt

namespace Dt
open PySem PySem.Spec PyProof.Rows L2
/-! ### set(l), l a list of ints -/
section
variable {P : Program} {w : World} {A : Around} {E : Value → Shared → Prop} {s : Shared}
theorem set_of_list {l : Addr} {xs : Array Value} (ns : List Int) {Q : Value → Shared → Prop}
    (nh : A.handled = none) (tu : s.heap.IsList l xs) (ex : IntsAre xs.toList ns) (few : ns.length + 1 < scanBound)
    (fin : ∀ (h' : Heap) (tk c : Nat), SetR w h' s.heap.objs.size (fun j => decide (j ∈ ns)) c → c ≤ ns.length →
      (∀ b o, s.heap.get? b = some o → h'.get? b = some o) →
      Q (.ref s.heap.objs.size) { s with heap := h', toks := tk }) :
    wpAny (model P w) A (call (.type "set") [.ref l]) Q E s := by
  have size : xs.size = ns.length := by
    have z := ex.length
    rwa [Array.length_toList] at z
  obtain ⟨m1, m2, m3⟩ := F.called_set.mro
  have c1 := F.called_set.made
  have c2 := F.called_set.sub
  have c3 := F.called_set.notType
  have c4 := F.called_set.canCreate
  have c5 := F.typeCall_set_1 (.ref l)
  refine wpAny_call (codeAny_of_tree ?_)
  show wpAny _ _ (callAny (.type "set") _) _ _ _
  refine wpAny_pure ⟨Code.quiet_builtin _ (by decide +kernel), ?_⟩
  refine codeAny_builtin F.entry_type_call ?_
  rw [Around.under_plain (weight_type_call_type "set" [.ref l] []) rfl]
  repeat (any_goals (first | assumption | wp_step))
  refine codeAny_mono (code_set_led1 (.ref l) (E := E)
    (Q₁ := fun v s1 => v = .ref s.heap.objs.size ∧ s1 = { s with heap := sHp w s.heap }) ⟨rfl, rfl⟩)
    fun r s1 hr => ?_
  match r, hr with
  | .error e, hr => exact hr
  | .ok (.ret v), hr =>
    obtain ⟨rfl, rfl⟩ := hr
    have g0 : (sHp w s.heap).get? s.heap.objs.size = some (sObj w) := Heap.get?_push_size _ rfl
    have ty : Shared.TypeIs { s with heap := sHp w s.heap } (.ref s.heap.objs.size) "set" := ⟨_, g0, rfl⟩
    have i1 := F.called_set.init.lookup
    have i2 := F.called_set.init.bind (.ref s.heap.objs.size)
    repeat (any_goals (first | assumption | wp_step))
    refine codeAny_mono (codeAny_call_builtin
      (R := wants (fun r s2 => r = .none ∧ ∃ h' tk c, s2 = { s with heap := h', toks := tk } ∧
        SetR w h' s.heap.objs.size (fun j => decide (j ∈ ns)) c ∧ c ≤ ns.length ∧
        (∀ b o, s.heap.get? b = some o → h'.get? b = some o)) E)
      F.called_set.init.plain F.entry_set_init (check_set_init_1 ty ?_)) fun r2 s2 hr2 => ?_
    · obtain ⟨⟨oc, od, oa, os⟩, hob, hcl, nl, hda⟩ := tu
      simp only at hcl hda
      subst hcl; subst hda
      have at1 : (sHp w s.heap).get? l = some { cls := .type "list", dict := od, data := .seq xs nl, slots := os } :=
        Heap.get?_push_of_some _ hob
      have u1 := F.sub_list_set
      have u2 := F.sub_list_frozenset
      have u3 : (Value.type "list" == Value.type "dict") = false := by decide
      have tu1 : (sHp w s.heap).IsList l xs := ⟨_, at1, rfl, nl, rfl⟩
      unfold Builtin.«set.__init__» noKeywords Builtin.Frozenset.updateFrom
      generalize hPI : pyIter = PI
      wp_walk
      subst hPI
      refine wpAny_pyIter_list tu1 ?_
      refine wpAny_bind (wpAny_runValue ?_)
      have ll : l < s.heap.objs.size := Heap.lt_size hob
      have nh3 : A.in1.in1.in1.handled = none := by simp [nh]
      have sz1 : (sHp w s.heap).objs.size = s.heap.objs.size + 1 := Heap.size_push ..
      have neI : l ≠ (sHp w s.heap).objs.size := by rw [sz1]; exact Nat.ne_of_lt (Nat.lt_succ_of_lt ll)
      have out : s.heap.objs.size ∉ [(sHp w s.heap).objs.size, l] := by
        simp only [List.mem_cons, List.not_mem_nil, or_false, not_or, sz1]
        exact ⟨Nat.ne_of_lt (Nat.lt_succ_self _), Nat.ne_of_gt ll⟩
      have each : ∀ (i : Nat) (v : Value), xs[i]? = some v → ∃ k t, ns[i]? = some k ∧ v = .int k t := fun i v hv => by
        have hi : i < ns.length := by rw [← size]; exact (Array.getElem?_eq_some_iff.mp hv).1
        obtain ⟨t, e⟩ := PyProof.Rows.IntsAre.int_at ex i v (by rw [Array.getElem?_toList]; exact hv)
        refine ⟨ns[i], t, List.getElem?_eq_getElem hi, ?_⟩
        rw [e, List.getD_eq_getElem?_getD, List.getElem?_eq_getElem hi] <;> rfl
      refine set_update_ints ((Walks.list nh3 _ l neI xs).toS) s.heap.objs.size out ns size few each
        (xs.size - 0) 0 _ (by omega) (Nat.zero_le _) ⟨⟨_, Heap.get?_push_size _ rfl, rfl, rfl⟩, tu1.push _⟩ ?new ?rest
      case new => exact ⟨0, Nat.le_refl 0, setR_new_at (Heap.get?_push_of_some _ g0)⟩
      case rest =>
        rintro ⟨h', g', d', tk', os'⟩ c mv hc R
        have e1 : g' = s.gens := mv.gens
        have e2 : d' = s.drawn := mv.drawn
        have e3 : os' = s.os := mv.os
        subst e1; subst e2; subst e3
        show wpAny _ _ _ _ _ _
        refine wpAny_pure ?_
        show wpAny _ _ (ret Value.none) _ _ _
        rw [size] at hc
        refine wpAny_pure ⟨rfl, h', tk', c, rfl, R, hc, fun b o z => ?_⟩
        have b0 : b < s.heap.objs.size := Heap.lt_size z
        have b2 : b ≠ (sHp w s.heap).objs.size := Nat.ne_of_lt (by rw [sz1]; exact Nat.lt_succ_of_lt b0)
        refine mv.heap b o (fun hm => ?_) (Heap.get?_push_of_some _ (Heap.get?_push_of_some _ z))
        simp only [List.mem_cons, List.not_mem_nil, or_false] at hm
        rcases hm with hm | hm
        · exact Nat.ne_of_lt b0 hm
        · exact b2 hm
    · match r2, hr2 with
      | .error e, hr2 => exact hr2
      | .ok (.ret v), hr2 =>
        obtain ⟨rfl, h', tk, c, rfl, R, hc, kp⟩ := hr2
        repeat (any_goals (first | assumption | wp_step))
        exact fin _ _ _ R hc kp
/-- how many there are -/
theorem setR_card {h : Heap} {a : Addr} {ns : List Int} {c : Nat} (R : SetR w h a (fun j => decide (j ∈ ns)) c) : c = (ddF ns).length := by
  obtain ⟨o, es, ep, t, ho, hex, hd, g, nd, hm, hb, hf, hn, hr, hl⟩ := R
  have p : (es.toList.map keyOf).Perm (ddF ns) := (List.perm_ext_iff_of_nodup nd (nodup_ddF ns)).mpr fun a => by
    rw [← hm a, mem_ddF, decide_eq_true_eq]
  have := p.length_eq
  rw [List.length_map, Array.length_toList] at this
  omega
end
end Dt

namespace Dt
open PySem PySem.Spec PyProof.Rows L2
/-! ### sorted(set(x)), len(set(x)): x a list or a tuple of ints -/
section
variable {X : Cx}
/-- x: ints, in a list or a tuple -/
def SetIn (K : Fg) (H : Hp) (x : V) (ns : List Int) : Prop := ∃ a : Addr, x = .ref a ∧ (SqL K H a (ns.map V.int) ∨ SqT K H a (ns.map V.int)) ∧ ns.length ≤ 4000
theorem set_of_in {pins : List (Addr × Obj)} {σ : St} {H : Hp} {s : Shared} {x : V} {v : Value} {ns : List Int} {Q : Value → Shared → Prop} (hc : X.calm = true) (I : Inv X pins σ H s) (r : RelV x v) (hx : SetIn X.K H x ns)
    (q : ∀ (d : Addr) (s2 : Shared) (c : Nat), Inv X pins σ H s2 → SetR X.w s2.heap d (fun j => decide (j ∈ ns)) c → Q (.ref d) s2) :
    wpAny (model X.prog X.w) X.A (call (.type "set") [v]) Q X.xe s := by
  obtain ⟨a, rfl, hs, hl4⟩ := hx
  have ev : v = .ref a := r
  subst ev
  have room : ns.length + 1 < scanBound := by
    have : scanBound = 4096 := by decide
    omega
  rcases hs with hs | hs
  · obtain ⟨its, rv, hl, hz⟩ := I.list hs
    have hi := ints_of_vals rv
    exact set_of_list ns (I.ok.hd hc) hl.isList (by simpa using hi) room fun h' tk c hS hcl kp => q _ _ c (I.kept (t' := tk) kp) hS
  · obtain ⟨its, rv, hl, hz⟩ := I.tuple hs
    have hi := ints_of_vals rv
    exact call_set_tupI ns (I.ok.hd hc) hl (by simpa using hi) room fun h' tk c hS hcl kp => q _ _ c (I.kept (t' := tk) kp) hS
def tSSA (K : Fg) (te : TE) : TE := fun σ H Q => te σ H fun x H1 => ∃ ns : List Int, SetIn K H1 x ns ∧ (ddF ns).length < 64 ∧ ∀ p, H1 p = none → Q (.ref p) (upd H1 p (.lst ((srt lti (ddF ns)).map V.int)))
theorem pe_sortSetA {te : TE} {e : Expr} {p pos p2 pos2 : Pos} (hc : X.calm = true) (hg : Gl X "sorted") (hm : X.mg "sorted" = none) (hg2 : Gl X "set") (hm2 : X.mg "set" = none) (he : PE X e te)
    (na : starEach [e] X.env = (false, eval e X.env) :: starEach [] X.env := by rfl) (nb : starEach [.Call (.Name "set" p2) [e] [] pos2] X.env = (false, eval (.Call (.Name "set" p2) [e] [] pos2) X.env) :: starEach [] X.env := by rfl) :
    PE X (.Call (.Name "sorted" p) [.Call (.Name "set" p2) [e] [] pos2] [] pos) (tSSA X.K te) := by
  refine ⟨fun pins s σ H Q I h => ?_⟩
  refine wpAny_Call_Name_kw (ld_blt I hg hm boot_sorted ?_ (by decide) (by decide))
  refine callWith_builtin1 (args_cons (thn (Q := fun u s2 => ∃ (d : Addr) (ns : List Int) (c : Nat) (H1 : Hp), u = .ref d ∧ Inv X pins σ H1 s2 ∧ SetR X.w s2.heap d (fun j => decide (j ∈ ns)) c ∧ (ddF ns).length < 64 ∧
      ∀ p, H1 p = none → Q (.ref p) (upd H1 p (.lst ((srt lti (ddF ns)).map V.int)))) ?_ fun u s2 ⟨d, ns, c, H1, eu, I2, hS, h64, q⟩ => args_nil ?_) nb) nb rfl
  · refine Call_ (ld_blt I hg2 hm2 boot_set (PyProof.Rows.callWith_type1 (one_arg he I h (fun v s2 x H2 I2 r q => ?_) na) na))
    obtain ⟨ns, hs, h64, q⟩ := q
    exact set_of_in hc I2 r hs fun d s3 c I3 hS => ⟨d, ns, c, H2, rfl, I3, hS, h64, q⟩
  · subst eu
    have hc0 := setR_card hS
    refine sorted_set hS (I2.ok.hd hc) (by omega) fun s' pp out c' ms kp hg' ho' hle hout hi hpw hmem hlen => ?_
    have em : ms = srt lti (ddF ns) := by
      refine srt_eq tot_lti ?_ (hpw.imp fun h => decide_eq_false (by omega))
      refine (List.perm_ext_iff_of_nodup (hpw.imp fun h => by omega) (nodup_ddF ns)).mpr fun a => ?_
      rw [hmem, mem_ddF, decide_eq_true_eq]
    subst em
    have hlen2 : ((srt lti (ddF ns)).map V.int).length ≤ sizeLine := by rw [List.length_map, hlen, sizeLine_eq]; omega
    have hn : H1 pp = none := I2.hok.fresh hle
    have J : Inv X pins σ (upd H1 pp (.lst ((srt lti (ddF ns)).map V.int))) { s2 with heap := s'.heap, gens := s'.gens, drawn := s'.drawn, toks := s'.toks } :=
      I2.call (ch := []) (Un.laid kp hle hn) (I2.hok.laid kp hle ⟨hlen2, out.toList, c', vals_of_ints hi, hout⟩) (by rw [hg']; exact I2.bare) (fun _ z => nomatch z)
    have e : s' = { s2 with heap := s'.heap, gens := s'.gens, drawn := s'.drawn, toks := s'.toks } := by
      cases s'
      cases s2
      cases ho'
      rfl
    rw [e]
    exact ⟨.ref pp, _, J, rfl, q _ hn⟩
end
def gSSA (g : DE) : DE := fun ρ Q => g ρ fun q r ρ1 => ∃ (b : Bool) (ns : List Int), r.seq ρ1 = some (b, ns.map .int) ∧ ns.length ≤ 4000 ∧ (ddF ns).length < 64 ∧ Q q (.fr (.lst ((srt lti (ddF ns)).map .int))) ρ1
def gLS (g : DE) : DE := fun ρ Q => g ρ fun q r ρ1 => ∃ (b : Bool) (ns : List Int), r.seq ρ1 = some (b, ns.map .int) ∧ ns.length ≤ 4000 ∧ Q q (.cl (.int ((ddF ns).length : Nat))) ρ1
theorem setIn_of {K : Fg} {pv : Pins} {F H : Hp} {σ : St} {ρ : Env} {fps : Fps} {v : V} {r : Res} {f : AS} {b : Bool} {ns : List Int} (S : Sta K pv F H σ ρ fps) (R : RepR K F H σ (own ρ fps) v r f) (e : r.seq ρ = some (b, ns.map .int)) (hl : ns.length ≤ 4000) : SetIn K H v ns := by
  cases b with
  | true =>
    obtain ⟨a, vs, rfl, h1, h2⟩ := R.seqL S e
    have ev := reps_ints h2
    subst ev
    exact ⟨a, rfl, .inl h1, hl⟩
  | false =>
    obtain ⟨a, vs, rfl, h1, h2⟩ := R.seqT S e
    have ev := reps_ints h2
    subst ev
    exact ⟨a, rfl, .inr (Same.sqT S.le h1), hl⟩
section
variable {X : Cx} {pv : Pins} {g : DE} {e : Expr} {p pos p2 pos2 : Pos}
theorem dv_sortSetA (hc : X.calm = true) (hg : Gl X "sorted") (hm : X.mg "sorted" = none) (hg2 : Gl X "set") (hm2 : X.mg "set" = none) (he : DEv X pv e g)
    (na : starEach [e] X.env = (false, eval e X.env) :: starEach [] X.env := by rfl) (nb : starEach [.Call (.Name "set" p2) [e] [] pos2] X.env = (false, eval (.Call (.Name "set" p2) [e] [] pos2) X.env) :: starEach [] X.env := by rfl) :
    DEv X pv (.Call (.Name "sorted" p) [.Call (.Name "set" p2) [e] [] pos2] [] pos) (gSSA g) :=
  PE.to (pe_sortSetA hc hg hm hg2 hm2 he na nb) fun σ H Q ⟨ρ, F, fps, Q0, S, ex, h, k⟩ => by
    refine ⟨ρ, F, fps, _, S, ex, h, fun q r ρ1 v H1 F1 fps1 f1 ⟨b, ns, hs, hl, h64, q0⟩ S1 s1 e1 k1 => ?_⟩
    refine ⟨ns, setIn_of S1 e1 hs hl, h64, fun p hp => ?_⟩
    have G := Grow.ownedT (tf := f1) (o := .lst ((srt lti (ddF ns)).map V.int)) S1.le hp
    have rr : ∀ l : List Int, Reps X.K F1 (l.map V.int) (l.map .int) := fun l => by
      induction l with
      | nil => exact .nil
      | cons a l ih => exact .cons (.int a) ih
    exact k _ _ ρ1 _ _ _ fps1 _ q0 (G.sta S1 fun a z w => (e1.out a z).2.2.1 w) (G.step s1) (RepR.newL S1 hp (rr _)) fun z => by
      obtain ⟨a1, a2, a3⟩ := k1 z
      exact ⟨a1.trans (.of G.hh), a2, a3⟩
end
theorem gSSA_i {ρ : Env} {Q : Bool → Res → Env → Prop} {g : DE} (h : g ρ fun q r ρ1 => ∃ (b : Bool) (ns : List Int), r.seq ρ1 = some (b, ns.map .int) ∧ ns.length ≤ 4000 ∧ (ddF ns).length < 64 ∧ Q q (.fr (.lst ((srt lti (ddF ns)).map .int))) ρ1) : gSSA g ρ Q := h
theorem gLS_i {ρ : Env} {Q : Bool → Res → Env → Prop} {g : DE} (h : g ρ fun q r ρ1 => ∃ (b : Bool) (ns : List Int), r.seq ρ1 = some (b, ns.map .int) ∧ ns.length ≤ 4000 ∧ Q q (.cl (.int ((ddF ns).length : Nat))) ρ1) : gLS g ρ Q := h
end Dt

namespace Dt
open PySem PySem.Spec PyProof.Rows L2
/-! ### len({a, b, c, d}) -/
section
variable {X : Cx}
/-- a record that nobody else knows -/
structure OutD (X : Cx) (pins : List (Addr × Obj)) (H : Hp) (d : Addr) : Prop where
  n : H d = none
  l : d ≠ X.env.locals
  a : X.s_0.heap.objs.size ≤ d
  c : ∀ x c, X.env.cells.lookup x = some c → c ≠ d
  p : ∀ p ∈ X.pn ++ pins, p.1 ≠ d
end
end Dt

namespace Dt
open PySem PySem.Spec PyProof.Rows L2
section
variable {X : Cx}
end
def gLD4 (g1 g2 g3 g4 : DE) : DE := fun ρ Q => g1 ρ fun q1 r1 ρ1 => ok (asI r1) fun a => g2 ρ1 fun q2 r2 ρ2 => ok (asI r2) fun b => g3 ρ2 fun q3 r3 ρ3 => ok (asI r3) fun c => g4 ρ3 fun q4 r4 ρ4 => ok (asI r4) fun d => Q (q1 && (q2 && (q3 && q4))) (.cl (.int ((ddF [a, b, c, d]).length : Nat))) ρ4
theorem gLD4_i {ρ : Env} {Q : Bool → Res → Env → Prop} {g1 g2 g3 g4 : DE} (h : g1 ρ fun q1 r1 ρ1 => ok (asI r1) fun a => g2 ρ1 fun q2 r2 ρ2 => ok (asI r2) fun b => g3 ρ2 fun q3 r3 ρ3 => ok (asI r3) fun c => g4 ρ3 fun q4 r4 ρ4 => ok (asI r4) fun d => Q (q1 && (q2 && (q3 && q4))) (.cl (.int ((ddF [a, b, c, d]).length : Nat))) ρ4) : gLD4 g1 g2 g3 g4 ρ Q := h
section
variable {X : Cx} {pv : Pins} {g1 g2 g3 g4 : DE} {e1 e2 e3 e4 : Expr} {k : Nat} {p pos p2 : Pos}
end
end Dt

namespace Dt
open PySem PySem.Spec PyProof.Rows L2 LamX
section
variable {P : Program} {w : World} {K : Fg} {mg : Str → Option Value} {base : Heap} {x qual : Str} {st : Stmt} {f : Addr} {fd : FuncData} {N ps : List Str} {k : Nat}
/-- a def's code object is one of the module's -/
theorem Fun.code (Fu : Fun K x qual st f fd) : ∃ c, fd.code = .ref c ∧ PySem.W.kdsCode K (.ref c) = true := by
  obtain ⟨oc, od, kV, doc, pm, an, cdv, ct, osl, rfl, lk, hcd⟩ := Fu.ex
  have h := kdsCode_of hcd
  cases cdv with
  | ref c => exact ⟨c, rfl, h⟩
  | _ => cases h
end
end Dt

namespace Dt
open PySem PySem.Spec
/-! ### no deed changes an odd set, or who holds a locked number -/
theorem degI_cons (p : Ln) (ls : List Ln) (v : Int) : degI (p :: ls) v = (if p.1 = v ∨ p.2 = v then 1 else 0) + degI ls v := by
  rw [show p :: ls = [p] ++ ls from rfl, degI_append]
  congr 1
  have := deg_snoc [] p.1 p.2 v
  rw [List.nil_append] at this
  rw [this]
  unfold degI
  simp
theorem degI_one (p : Ln) (v : Int) : degI [p] v = if p.1 = v ∨ p.2 = v then 1 else 0 := by
  rw [degI_cons]
  unfold degI
  simp
/-- lines that go away -/
theorem degI_drop {ls : List Ln} (hn : ls.Nodup) {p : Ln} (hp : p ∈ ls) (v : Int) : degI (ls.filter fun q => !decide (q = p)) v = degI ls v - degI [p] v := by
  have pm : ls.Perm (p :: ls.filter fun q => !decide (q = p)) := by
    refine (List.perm_ext_iff_of_nodup hn ?_).mpr fun q => ?_
    · refine List.nodup_cons.mpr ⟨fun h => ?_, List.Nodup.sublist List.filter_sublist hn⟩
      have := (List.mem_filter.mp h).2
      simp at this
    · rw [List.mem_cons, List.mem_filter]
      constructor
      · intro h
        by_cases e : q = p
        · exact .inl e
        · exact .inr ⟨h, by simpa using e⟩
      · rintro (rfl | h)
        · exact hp
        · exact h.1
  have := degI_perm pm v
  rw [degI_cons] at this
  rw [degI_one]
  omega
theorem lineOf_end (a b v : Int) : ((lineOf a b).1 = v ∨ (lineOf a b).2 = v) ↔ (a = v ∨ b = v) := lineOf_ends
/-- the numbers behind a deed -/
theorem aft_draw {m : Nat} {ls : List Ln} {a b : Int} (h : IsWeb m ls) (g : (Deed.draw a b).good m) (c : (Deed.draw a b).can ls = true) (v : Int) : degI (aftL m ls (.draw a b)) v = degI ls v + if a = v ∨ b = v then 1 else 0 := by
  rw [degI_perm (aft_perm h g c), raw_draw, deg_snoc]
theorem aft_strike {m : Nat} {ls : List Ln} {a b : Int} (h : IsWeb m ls) (g : (Deed.strike a b).good m) (c : (Deed.strike a b).can ls = true) (v : Int) : degI (aftL m ls (.strike a b)) v = degI ls v - if a = v ∨ b = v then 1 else 0 := by
  rw [degI_perm (aft_perm h g c)]
  have e : rawL ls (.strike a b) = ls.filter fun q => !decide (q = (a, b)) := by
    unfold rawL Deed.gone Deed.come
    rw [List.append_nil]
    refine List.filter_congr fun q _ => ?_
    rw [decide_eq_decide.mpr (List.mem_singleton (a := q) (b := (a, b)))]
  rw [e, degI_drop h.nodup (can_strike.mp c).2, degI_one]
theorem aft_exch {m : Nat} {ls : List Ln} {a b x y : Int} (h : IsWeb m ls) (g : (Deed.exch a b x y).good m) (c : (Deed.exch a b x y).can ls = true) (v : Int) : degI (aftL m ls (.exch a b x y)) v = degI ls v := by
  rw [degI_perm (aft_perm h g c)]
  obtain ⟨_, n1, n2, n3, n4, n5, n6⟩ := g
  obtain ⟨⟨c1, c2⟩, _, _⟩ := can_exch.mp c
  have hne : lineOf a b ≠ lineOf x y := fun e => by
    rcases lineOf_inj e with ⟨e1, _⟩ | ⟨e1, _⟩
    · exact n2 e1
    · exact n3 e1
  have e : rawL ls (.exch a b x y) = ((ls.filter fun q => !decide (q = lineOf a b)).filter fun q => !decide (q = lineOf x y)) ++ [lineOf a x, lineOf b y] := by
    unfold rawL Deed.gone Deed.come
    rw [List.filter_filter]
    congr 1
    refine List.filter_congr fun q _ => ?_
    rw [Bool.eq_iff_iff]
    simp only [List.mem_cons, List.not_mem_nil, or_false, Bool.not_eq_true', decide_eq_false_iff_not, Bool.and_eq_true, not_or]
    exact ⟨fun z => ⟨z.2, z.1⟩, fun z => ⟨z.2, z.1⟩⟩
  have n0 := h.nodup
  have m2 : lineOf x y ∈ ls.filter fun q => !decide (q = lineOf a b) := List.mem_filter.mpr ⟨c2, by simpa using Ne.symm hne⟩
  rw [e, degI_append, degI_drop (List.Nodup.sublist List.filter_sublist n0) m2, degI_drop n0 c1, degI_one, degI_one, degI_cons (lineOf a x), degI_one]
  simp only [lineOf_end]
  by_cases e1 : a = v
  · subst e1
    simp [Ne.symm n1, Ne.symm n2, Ne.symm n3]
  · by_cases e2 : b = v
    · subst e2
      simp [n1, Ne.symm n4, Ne.symm n5]
    · by_cases e3 : x = v
      · subst e3
        simp [n2, n4, Ne.symm n6]
      · by_cases e4 : y = v
        · subst e4
          simp [n3, n5, n6]
        · simp [e1, e2, e3, e4]
/-- two people's numbers are put -/
theorem count_set2 {row : List Int} {a b : Nat} (hab : a < b) (hb : b < row.length) {d e : Int} (ha : row[a]? = some d) (hb2 : row[b]? = some d) (x : Int) :
    (((row.set a e).set b e).count x : Int) = row.count x + (if e = x then 2 else 0) - if d = x then 2 else 0 := by
  have key : ∀ (row : List Int) (i : Nat) (d e : Int), row[i]? = some d → ((row.set i e).count x : Int) = row.count x + (if e = x then 1 else 0) - if d = x then 1 else 0 := by
    intro row
    induction row with
    | nil => intro i d e h; simp at h
    | cons z row ih =>
      intro i d e h
      cases i with
      | zero =>
        have h : z = d := by simpa using h
        subst h
        rw [List.set_cons_zero, List.count_cons, List.count_cons]
        simp only [beq_iff_eq]
        by_cases e1 : e = x <;> by_cases e2 : z = x <;> simp [e1, e2] <;> omega
      | succ i =>
        have h : row[i]? = some d := by simpa using h
        have := ih i d e h
        rw [List.set_cons_succ, List.count_cons, List.count_cons]
        by_cases e2 : z = x
        · simp only [e2, beq_self_eq_true, if_true]
          omega
        · have : (z == x) = false := by simpa using e2
          simp only [this]
          simp
          omega
  have h1 := key row a d e ha
  have h2 := key (row.set a e) b d e (by rw [List.getElem?_set]; rw [if_neg (by omega)]; exact hb2)
  rw [h2, h1]
  by_cases e1 : e = x <;> by_cases e2 : d = x <;> simp [e1, e2] <;> omega
theorem lotsI_getE {m : Nat} {ls : List Ln} {i : Nat} (h : i < m) : (lotsI m ls)[i]? = some (degI ls (i : Int)) := by
  unfold lotsI
  rw [List.getElem?_map, rangeI_getElem h]
  show some (degI ls (0 + (i : Int))) = _
  rw [Int.zero_add]
theorem lots_two {m : Nat} {ls ks : List Ln} {a b : Nat} {e : Int} (hab : a < b) (hb : b < m) (h : ∀ v : Int, degI ks v = if (a : Int) = v ∨ (b : Int) = v then e else degI ls v) : lotsI m ks = ((lotsI m ls).set a e).set b e := by
  refine List.ext_getElem? fun i => ?_
  by_cases hi : i < m
  · rw [lotsI_getE hi, h, List.getElem?_set, List.getElem?_set, List.length_set, lotsI_len, lotsI_getE hi]
    by_cases e1 : b = i
    · subst e1
      rw [if_pos (.inr rfl), if_pos rfl, if_pos hi]
    · by_cases e2 : a = i
      · subst e2
        rw [if_pos (.inl rfl), if_neg e1, if_pos rfl, if_pos hi]
      · rw [if_neg (by omega), if_neg e1, if_neg e2]
  · rw [List.getElem?_eq_none (by rw [lotsI_len]; omega), List.getElem?_eq_none (by rw [List.length_set, List.length_set, lotsI_len]; omega)]
/-- how many have a number, behind a deed -/
theorem aft_count {m : Nat} {ls : List Ln} {d : Deed} (h : IsWeb m ls) (g : d.good m) (c : d.can ls = true) (x : Int) : (lotsI m (aftL m ls d)).count x % 2 = (lotsI m ls).count x % 2 := by
  cases d with
  | draw a b =>
    obtain ⟨g1, g2, g3⟩ := g
    obtain ⟨c1, c2⟩ := can_draw.mp c
    have e := lots_two (m := m) (ls := ls) (ks := aftL m ls (.draw a b)) (a := a.toNat) (b := b.toNat) (e := degI ls a + 1) (by omega) (by omega) fun v => by
      rw [aft_draw h ⟨g1, g2, g3⟩ c, show (a.toNat : Int) = a by omega, show (b.toNat : Int) = b by omega]
      by_cases q : a = v ∨ b = v
      · rw [if_pos q, if_pos q]
        rcases q with rfl | rfl
        · rfl
        · rw [c1]
      · rw [if_neg q, if_neg q]
        omega
    have k := count_set2 (row := lotsI m ls) (a := a.toNat) (b := b.toNat) (d := degI ls a) (e := degI ls a + 1) (by omega) (by rw [lotsI_len]; omega) (by rw [lotsI_getE (by omega), show (a.toNat : Int) = a by omega]) (by rw [lotsI_getE (by omega), show (b.toNat : Int) = b by omega, c1]) x
    rw [← e] at k
    split at k <;> split at k <;> omega
  | strike a b =>
    obtain ⟨g1, g2, g3⟩ := g
    obtain ⟨c1, c2⟩ := can_strike.mp c
    have e := lots_two (m := m) (ls := ls) (ks := aftL m ls (.strike a b)) (a := a.toNat) (b := b.toNat) (e := degI ls a - 1) (by omega) (by omega) fun v => by
      rw [aft_strike h ⟨g1, g2, g3⟩ c, show (a.toNat : Int) = a by omega, show (b.toNat : Int) = b by omega]
      by_cases q : a = v ∨ b = v
      · rw [if_pos q, if_pos q]
        rcases q with rfl | rfl
        · rfl
        · rw [c1]
      · rw [if_neg q, if_neg q]
        omega
    have k := count_set2 (row := lotsI m ls) (a := a.toNat) (b := b.toNat) (d := degI ls a) (e := degI ls a - 1) (by omega) (by rw [lotsI_len]; omega) (by rw [lotsI_getE (by omega), show (a.toNat : Int) = a by omega]) (by rw [lotsI_getE (by omega), show (b.toNat : Int) = b by omega, c1]) x
    rw [← e] at k
    split at k <;> split at k <;> omega
  | exch a b u v =>
    have e : lotsI m (aftL m ls (.exch a b u v)) = lotsI m ls := List.map_congr_left fun z _ => aft_exch h g c z
    rw [e]
/-- MAIN: the odd set stays -/
theorem aft_odds {m : Nat} {ls : List Ln} {d : Deed} (h : IsWeb m ls) (g : d.good m) (c : d.can ls = true) : oddsL m (lotsI m (aftL m ls d)) = oddsL m (lotsI m ls) := by
  refine List.filter_congr fun x _ => ?_
  have := aft_count h g c x
  apply decide_eq_decide.mpr
  omega
theorem Run.odds {m : Nat} {ls ls' : List Ln} {ds : List Deed} (h : Run m ls ds ls') (w : IsWeb m ls) : oddsL m (lotsI m ls') = oddsL m (lotsI m ls) := by
  induction h with
  | nil => rfl
  | cons g c _ ih => rw [ih (aftL_web _ _ _), aft_odds w g c]
theorem web_oddC {n : Nat} {ls : List Ln} (h2 : 2 ≤ n) (hw : IsWeb n ls) : OddC n (oddsL n (lotsI n ls)) := by
  have hb := lots_in hw
  have hl := lotsI_len n ls
  refine ⟨fun x hx => (mem_oddsL.mp hx).1, ?_⟩
  have p := (odds_par hb).1
  rw [hl] at p
  have hle := oddsL_len n (lotsI n ls)
  have hne : (oddsL n (lotsI n ls)).length ≠ n := fun e => by
    have hs : oddsL n (lotsI n ls) = rangeI 0 n := List.Sublist.eq_of_length List.filter_sublist (by rw [e, len_rangeI])
    refine not_ends hw h2 ⟨?_, ?_⟩
    · have : (0 : Int) ∈ oddsL n (lotsI n ls) := by rw [hs]; exact mem_rangeI.mpr (by omega)
      have := (mem_oddsL.mp this).2
      exact List.count_pos_iff.mp (by omega)
    · have : (n : Int) - 1 ∈ oddsL n (lotsI n ls) := by rw [hs]; exact mem_rangeI.mpr (by omega)
      have := (mem_oddsL.mp this).2
      exact List.count_pos_iff.mp (by omega)
  exact ⟨(n - (oddsL n (lotsI n ls)).length) / 2 - 1, by omega⟩
/-- who has a number three times can be seen by trials -/
theorem thr_of_three {n : Nat} {ls : List Ln} (h2 : 2 ≤ n) (hw : IsWeb n ls) {d : Int} (hd : 0 ≤ d ∧ d < n) (h3 : 2 < (lotsI n ls).count d) : Thr n (oddsL n (lotsI n ls)) d := by
  have hb := lots_in hw
  have hl := lotsI_len n ls
  obtain ⟨hC, r, hr⟩ := web_oddC h2 hw
  refine (thr_iff hC hr hd).mp ?_
  have p := row_halves hb rfl
  have hcm : d ∈ halfL n (lotsI n ls) := by
    refine List.mem_flatMap.mpr ⟨d, mem_rangeI.mpr (by omega), ?_⟩
    rw [List.mem_replicate]
    exact ⟨by omega, rfl⟩
  have pe := List.perm_cons_erase hcm
  have hasc : ((halfL n (lotsI n ls)).erase d).Pairwise (· ≤ ·) := (halfL_asc (lotsI n ls) 0 n).sublist (List.erase_sublist ..)
  refine ⟨(halfL n (lotsI n ls)).erase d, mem_ascL.mpr ⟨?_, fun z hz => halfL_in n _ z (List.mem_of_mem_erase hz), hasc⟩, ?_⟩
  · have h1 := p.length_eq
    have h4 := pe.length_eq
    rw [List.length_append, List.length_append] at h1
    rw [List.length_cons] at h4
    omega
  · have pr : (pairRow (oddsL n (lotsI n ls)) d ((halfL n (lotsI n ls)).erase d)).Perm (lotsI n ls) := by
      refine List.Perm.trans ?_ p.symm
      refine List.perm_iff_count.mpr fun x => ?_
      have hx := List.perm_iff_count.mp pe x
      unfold pairRow
      simp only [List.count_append, List.count_cons, List.count_nil] at hx ⊢
      omega
    rw [downF_eq pr]
    have hf := (web_iff_fits (row := lotsI n ls) fun z hz => (hb z hz).1).mp
    rw [hl] at hf
    exact hf ⟨ls, hw, fun z hz => (Dt.rowOf_at hz).symm, fun _ _ => rfl⟩
/-- a locked number is had by just one -/
theorem lock_one {n : Nat} {ls : List Ln} (h2 : 2 ≤ n) (hw : IsWeb n ls) {d : Int} (h : d ∈ lockedL n (oddsL n (lotsI n ls))) : (lotsI n ls).count d = 1 := by
  obtain ⟨h1, h3⟩ := List.mem_filter.mp h
  obtain ⟨hd, ho⟩ := mem_oddsL.mp h1
  have nt : ¬ Thr n (oddsL n (lotsI n ls)) d := by simpa using h3
  have : ¬ 2 < (lotsI n ls).count d := fun z => nt (thr_of_three h2 hw hd z)
  omega
theorem one_holder {m : Nat} {ls : List Ln} {d u v : Int} (h : (lotsI m ls).count d = 1) (hu : 0 ≤ u ∧ u < m) (hv : 0 ≤ v ∧ v < m) (eu : degI ls u = d) (ev : degI ls v = d) : u = v := by
  have key : ∀ (l : List Int) (i j : Nat), i < j → l[i]? = some d → l[j]? = some d → 2 ≤ l.count d := by
    intro l
    induction l with
    | nil => intro i j _ h; simp at h
    | cons z l ih =>
      intro i j hij hi hj
      cases j with
      | zero => omega
      | succ j =>
        have hj : l[j]? = some d := by simpa using hj
        have hm : 0 < l.count d := List.count_pos_iff.mpr (List.mem_of_getElem? hj)
        cases i with
        | zero =>
          have hi : z = d := by simpa using hi
          subst hi
          rw [List.count_cons_self]
          omega
        | succ i =>
          have := ih i j (by omega) (by simpa using hi) hj
          exact Nat.le_trans this (List.count_le_count_cons ..)
  have gu := lotsI_getE (m := m) (ls := ls) (i := u.toNat) (by omega)
  have gv := lotsI_getE (m := m) (ls := ls) (i := v.toNat) (by omega)
  rw [show (u.toNat : Int) = u by omega, eu] at gu
  rw [show (v.toNat : Int) = v by omega, ev] at gv
  rcases Nat.lt_trichotomy u.toNat v.toNat with q | q | q
  · have := key _ _ _ q gu gv; omega
  · omega
  · have := key _ _ _ q gv gu; omega
/-- MAIN: who holds a locked number holds it behind the deed -/
theorem aft_holds {m : Nat} {ls : List Ln} {d : Deed} (h2 : 2 ≤ m) (h : IsWeb m ls) (g : d.good m) (c : d.can ls = true) {x v : Int} (hx : x ∈ lockedL m (oddsL m (lotsI m ls))) (hv : 0 ≤ v ∧ v < m) (e : degI ls v = x) : degI (aftL m ls d) v = x := by
  have h1 := lock_one h2 h hx
  cases d with
  | draw a b =>
    obtain ⟨g1, g2, g3⟩ := g
    obtain ⟨c1, c2⟩ := can_draw.mp c
    rw [aft_draw h ⟨g1, g2, g3⟩ c, if_neg, Int.add_zero, e]
    rintro (q | q)
    · subst q
      have := one_holder h1 (u := a) (v := b) (by omega) (by omega) e (by rw [← c1]; exact e)
      omega
    · subst q
      have := one_holder h1 (u := a) (v := b) (by omega) (by omega) (by rw [c1]; exact e) e
      omega
  | strike a b =>
    obtain ⟨g1, g2, g3⟩ := g
    obtain ⟨c1, c2⟩ := can_strike.mp c
    rw [aft_strike h ⟨g1, g2, g3⟩ c, if_neg, Int.sub_zero, e]
    rintro (q | q)
    · subst q
      have := one_holder h1 (u := a) (v := b) (by omega) (by omega) e (by rw [← c1]; exact e)
      omega
    · subst q
      have := one_holder h1 (u := a) (v := b) (by omega) (by omega) (by rw [c1]; exact e) e
      omega
  | exch a b y z => rw [aft_exch h g c, e]
end Dt

namespace Dt
open PySem PySem.Spec PyProof.Rows L2 TL
/-! ### lists of deeds -/
theorem Run.then {m : Nat} {a b c : List Ln} {ds es : List Deed} (h : Run m a ds b) (k : Run m b es c) : Run m a (ds ++ es) c := by
  induction h with
  | nil => exact k
  | cons g1 c1 _ ih => exact .cons g1 c1 (ih k)
end Dt

namespace Dt
open PySem PySem.Spec
/-! ### what somebody may have -/
noncomputable def mayL (m : Nat) (C : List Int) (x : Int) : List Int := if decide (x ∈ lockedL m C) = true then [x] else (rangeI 0 m).filter fun d => decide (Thr m C d)
theorem Run.may {m : Nat} {ls ls' : List Ln} {ds : List Deed} (h2 : 2 ≤ m) (h : Run m ls ds ls') (w : IsWeb m ls) {v : Int} (hv : 0 ≤ v ∧ v < m) : mayL m (oddsL m (lotsI m ls')) (degI ls' v) = mayL m (oddsL m (lotsI m ls)) (degI ls v) := by
  have half : ∀ {a b : List Ln} {es : List Deed}, Run m a es b → IsWeb m a → degI a v ∈ lockedL m (oddsL m (lotsI m a)) → degI b v = degI a v := by
    intro a b es hr
    induction hr with
    | nil => intro _ _; rfl
    | cons g c _ ih =>
      intro wa hx
      have e := aft_holds h2 wa g c hx hv rfl
      rw [ih (aftL_web _ _ _) (by rw [aft_odds wa g c, e]; exact hx), e]
  have hb := h.turn w
  have w' := h.web w
  have eo := h.odds w
  unfold mayL
  rw [eo]
  by_cases c : degI ls v ∈ lockedL m (oddsL m (lotsI m ls))
  · rw [half h w c]
  · by_cases c' : degI ls' v ∈ lockedL m (oddsL m (lotsI m ls))
    · have := half hb w' (by rw [eo]; exact c')
      exact absurd (by rw [this]; exact c') c
    · rw [if_neg (by simpa using c'), if_neg (by simpa using c)]
end Dt

namespace Dt
open PySem PySem.Spec PyProof.Rows L2
/-! ### objects: e.f -/
def attR (f : Str) (ρ : Env) : Res → Option (Addr × Res)
  | .sl i p => match (Res.sl i p).ov ρ with
    | some (.ins C fs) => match fs.lookup f with
      | some (.fr d) => some (C, .cl d)
      | some _ => some (C, .sl i (p ++ [.att f]))
      | none => none
    | _ => none
  | _ => none
theorem Walk.snocA {H : Hp} {f : Str} {a C dx : Addr} {fs : List (Str × V)} {w : V} : ∀ {ps : List PK} {u : V}, Walk H u ps (.ref a) → H a = some (.ins C dx fs) → fs.lookup f = some w → Walk H u (ps ++ [.att f]) w
  | [], u, h, e, l => by
    have h : V.ref a = u := h
    subst h
    exact ⟨a, C, dx, fs, w, rfl, e, l, rfl⟩
  | .key _ :: ps, u, ⟨b, kvs1, w1, h1, h2, h3, h4⟩, e, l => ⟨b, kvs1, w1, h1, h2, h3, Walk.snocA h4 e l⟩
  | .att _ :: ps, u, ⟨b, C1, dx1, fs1, w1, h1, h2, h3, h4⟩, e, l => ⟨b, C1, dx1, fs1, w1, h1, h2, h3, Walk.snocA h4 e l⟩
theorem attR_rep {K : Fg} {pv : Pins} {F H : Hp} {σ : St} {ρ : Env} {fps : Fps} {v : V} {r res : Res} {fp : AS} {f : Str} {C : Addr} (S : Sta K pv F H σ ρ fps) (R : RepR K F H σ (own ρ fps) v r fp) (e : attR f ρ r = some (C, res)) :
    ∃ a dx fs w, v = .ref a ∧ H a = some (.ins C dx fs) ∧ fs.lookup f = some w ∧ RepR K F H σ (own ρ fps) w res noA := by
  cases r with
  | cl _ => cases e
  | fr _ => cases e
  | sl i p =>
    have e : (match (Res.sl i p).ov ρ with | some (.ins C fs) => (match fs.lookup f with | some (.fr d) => some (C, Res.cl d) | some _ => some (C, Res.sl i (p ++ [.att f])) | none => none) | _ => none) = some (C, res) := e
    split at e
    · rename_i C1 kvs ho
      obtain ⟨fp1, q, _⟩ := R.rep S ho
      cases q with
      | ins h1 n r1 x f1 =>
        rename_i a dx zs fp2
        split at e
        · rename_i d hl
          cases e
          obtain ⟨w, f2, g1, g2, _⟩ := r1.look hl
          cases g2 with
          | fr g2 _ => exact ⟨a, dx, zs, w, rfl, h1, g1, g2, fun _ z => z⟩
        · rename_i o _ hl
          cases e
          obtain ⟨w, f2, g1, g2, _⟩ := r1.look hl
          obtain ⟨⟨u, hu, hw⟩, _⟩ := R
          exact ⟨a, dx, zs, w, rfl, h1, g1, ⟨u, hu, hw.snocA h1 g1⟩, fun _ z => z⟩
        · cases e
    · cases e
def gAtt (C : Addr) (f : Str) (g : DE) : DE := fun ρ Q => g ρ fun q r ρ1 => ok (attR f ρ1 r) fun t => t.1 = C ∧ Q q t.2 ρ1
section
variable {X : Cx} {pv : Pins} {pos pos' apos : Pos} {o e : Expr} {go ge gv : DE} {C : Addr} {f m : Str}
theorem dv_att (c : Cls X.K C) (n : NoAttr X.K C f) (h : DEv X pv o go) (hb : attributeBase o f X.env (eval o X.env) = eval o X.env := by rfl) : DEv X pv (.Attribute o f pos) (gAtt C f go) :=
  PE.to (pe_fld h hb) fun σ H Q ⟨ρ, F, fps, Q0, S, ex, h, k⟩ => ⟨ρ, F, fps, _, S, ex, h, fun q r ρ' v H' F' fps' f1 ⟨⟨C1, res⟩, e1, e2, q0⟩ S' s R kq => by
    have e2 : C1 = C := e2
    subst e2
    obtain ⟨a, dx, fs, w, rfl, h1, h2, h3⟩ := attR_rep S' R e1
    refine ⟨a, C1, dx, fs, w, rfl, h1, c, n, h2, ?_⟩
    exact k q res ρ' w H' F' fps' noA q0 S' (s.less fun c z => z.elim .inl fun z => z.elim) h3 kq⟩
/-! ### self.f = v -/
def putA (f : Str) (o : OV) : List (Str × OV) → List (Str × OV)
  | [] => [(f, o)]
  | (g, x) :: r => if g = f then (g, o) :: r else (g, x) :: putA f o r
theorem RepOf.len {K : Fg} {F H : Hp} : ∀ {zs : List (Str × V)} {os : List (Str × OV)} {f : AS}, RepOf K F H zs os f → zs.length = os.length
  | _, _, _, .nil _ => rfl
  | _, _, _, .cons h r x f => by rw [List.length_cons, List.length_cons, RepOf.len r]
theorem RepOf.putA {K : Fg} {F H : Hp} {k : Str} {v : V} {o : OV} {ft : AS} (h : RepO K F H v o ft) : ∀ {zs : List (Str × V)} {os : List (Str × OV)} {f : AS}, RepOf K F H zs os f → Dsj ft f →
    ∃ f', RepOf K F H (putF k v zs) (Dt.putA k o os) f' ∧ ∀ b, f' b → f b ∨ ft b
  | _, _, f, .nil n, _ => ⟨fun b => ft b ∨ noA b, .cons h (.nil (fp := noA) fun _ z => z) (fun a _ z => z) fun b => Iff.rfl, fun b z => z.elim .inr fun z => z.elim⟩
  | _, _, f, .cons (k := k1) (v := v1) (o := o1) (kvs := zs) (os := os) (fp1 := f1) (fp2 := f2) h1 r x e, d => by
    by_cases hkk : k1 = k
    · subst hkk
      refine ⟨fun b => ft b ∨ f2 b, ?_, fun b z => z.elim .inr fun z => .inl ((e b).mpr (.inr z))⟩
      unfold putF Dt.putA
      rw [if_pos rfl, if_pos rfl]
      exact .cons h r (fun b p q => d b p ((e b).mpr (.inr q))) fun b => Iff.rfl
    · obtain ⟨f', g1, g2⟩ := RepOf.putA h r (fun b p q => d b p ((e b).mpr (.inr q)))
      refine ⟨fun b => f1 b ∨ f' b, ?_, fun b z => z.elim (fun z => .inl ((e b).mpr (.inl z))) fun z => (g2 b z).elim (fun z => .inl ((e b).mpr (.inr z))) .inr⟩
      unfold putF Dt.putA
      rw [if_neg hkk, if_neg hkk]
      exact .cons h1 g1 (fun b p q => (g2 b q).elim (fun q => x b p q) fun q => d b q ((e b).mpr (.inl p))) fun b => Iff.rfl
theorem Chg.aput {K : Fg} {F H : Hp} {a dx : Addr} {zs : List (Str × V)} {os : List (Str × OV)} {k : Str} {v : V} {o : OV} {ft : AS} (hH : H a = some (.ins C dx zs)) (h : RepO K F H v o ft) (hno : ¬ ft a) :
    Chg K F H a (.ins C dx (putF k v zs)) ft (.ref a) (.ins C os) (.ins C (putA k o os)) := fun f1 hr hd => by
  cases hr with
  | ins h1 n r x f =>
    rename_i dx1 kvs1 fp1
    rw [hH] at h1
    cases h1
    have dj : Dsj ft fp1 := fun b p q => hd b p ((f b).mpr (.inr q))
    obtain ⟨f', g1, g2⟩ := r.putA (k := k) h dj
    have na : ¬ f' a := fun z => (g2 a z).elim x hno
    refine ⟨fun b => b = a ∨ f' b, .ins upd_same n (g1.mono (Same.refl F) fun b p => ⟨upd_ne fun z => by subst z; exact na p, (g1.out b p).1⟩) na fun b => Iff.rfl, fun b z => ?_, (f a).mpr (.inl rfl)⟩
    rcases z with z | z
    · exact .inl ((f b).mpr (.inl z))
    · exact (g2 b z).elim (fun z => .inl ((f b).mpr (.inr z))) .inr
/-- the object at a place -/
def insAt (ρ : Env) : Res → Option (Nat × List PK × Addr × List (Str × OV))
  | .sl i p => match (Res.sl i p).ov ρ with
    | some (.ins C fs) => some (i, p, C, fs)
    | _ => none
  | _ => none
theorem insAt_inv {ρ : Env} {r : Res} {i : Nat} {p : List PK} {C : Addr} {fs : List (Str × OV)} (e : insAt ρ r = some (i, p, C, fs)) : r = .sl i p ∧ r.ov ρ = some (.ins C fs) := by
  cases r with
  | cl d => cases e
  | fr o => cases e
  | sl j q =>
    have e : (match (Res.sl j q).ov ρ with | some (.ins C fs) => some (j, q, C, fs) | _ => none) = some (i, p, C, fs) := e
    split at e
    · rename_i C1 fs1 h
      cases e
      exact ⟨rfl, h⟩
    · cases e
def gASet (C : Addr) (f : Str) (go gv : DE) : DS := fun D ρ => gv ρ fun _ rv ρ1 => go ρ1 fun q ro ρ2 => (rv.deep = false ∨ q = true) ∧ ok (keepR ρ2 rv) fun o => ok (insAt ρ2 ro) fun t => (t.2.2.1 = C ∧ t.2.2.2.length < 1000) ∧
  D.nx (putAt ρ2 t.1 t.2.1 (.ins C (putA f o t.2.2.2)))
theorem ds_aset (c : Cls X.K C) (n : NoAttr X.K C f) (ho : DEv X pv o go) (hv : DEv X pv e gv) (hs : swapsWith e (some (.Attribute o f pos')) pos.line X.env = pure false := by rfl) : DSv X pv (.Assign [.Attribute o f pos'] e pos) (gASet C f go gv) :=
  PS.to (ps_fld ho hv hs) fun D σ H ⟨ρ, F, fps, D0, S, h, en⟩ => by
    refine ⟨ρ, F, fps, _, S, en.ex, h, fun q1 rv ρ1 v H1 F1 fps1 f1 h1 S1 s1 e1 k1 => ?_⟩
    refine ⟨ρ1, F1, fps1, _, S1, en.ex.later s1, h1, fun q ro ρ2 x H2 F2 fps2 f2 ⟨hq, o1, a3, ⟨i, p, C1, os⟩, a4, ⟨hC, hz⟩, q0⟩ S2 s2 e2 k2 => ?_⟩
    have hC : C1 = C := hC
    subst hC
    have e1' := e1.later (f2 := f2) (ow2 := own ρ2 fps2) s2 fun z => by
      rcases hq with w | w
      · rw [w] at z; cases z
      · exact (k2 w).1
    obtain ⟨rfl, hov⟩ := insAt_inv a4
    obtain ⟨fp, qd, _⟩ := e2.rep S2 hov
    have ro := keepR_rep S2 e1'.1 a3
    cases qd with
    | ins g1 n1 r1 x1 f1' =>
      rename_i a dx zs fpx
      have df : Dsj f1 (own ρ2 fps2) := fun b z w => (e1'.1.out b z).2.2.1 w
      have nfa : ¬ f1 a := fun z => by
        obtain ⟨fps', _, _, oa⟩ := S2.change (a := a) (ho := .ins C1 dx zs) (ft := noA) e2 hov (fun f1 hr hd => by
          cases hr with
          | ins h1 n r x f =>
            rename_i dx2 kvs1 fp1
            rw [g1] at h1
            cases h1
            refine ⟨f1, .ins upd_same n (r.mono (Same.refl F2) fun b p => ⟨upd_ne fun z => by subst z; exact x p, (r.out b p).1⟩) x f, fun b z => .inl z, (f a).mpr (.inl rfl)⟩) fun b z => z.elim
        exact df a z oa
      obtain ⟨fps', S4, o4, oa⟩ := S2.change (a := a) (ho := .ins C1 dx (putF f v zs)) (ft := f1) e2 hov (Chg.aput (os := os) (o := o1) g1 ro nfa) df
      have hl : zs.length < 1000 := by rw [r1.len]; exact hz
      refine ⟨a, C1, dx, zs, rfl, g1, c, n, hl, en.nx _ σ _ F2 fps' q0 S4 ?_⟩
      have sA : Step F H (own ρ fps) F2 H2 (orA (own ρ2 fps2) (orA f1 f2)) := s1.aside s2
      exact Step.change (ft := f1) (sA.less fun c z => z.elim .inl fun z => .inr (.inl z)) oa o4
end
end Dt

namespace Dt
open PySem PySem.Spec PyProof.Rows L2
/-! ### objects: o.m(..) -/
section
variable {X : Cx} {CX : CXT} {k : Nat} {f C : Addr} {fd : FuncData} {ps : List Str} {sp : Sp} {dvs : List V} {ds : List Value} {E : XK} {x m : Str} {p pos apos : Pos} {e o : Expr} {es : List Expr} {ta : TE} {t : TA}
theorem pe_methG {pl : Sem Bool} (he : PE X o ta) (c : Cls X.K C) (hm : Meth X.K C m f) (Fn : FnG X.prog X.w X.K X.mg X.base CX k f fd ps sp) (hr : Room k X.A) (hgd : X.A.guards = some []) (hb : Binds X.K fd ps ds) (hd : Vals dvs ds) (hx : Passes CX X E) (ha : PA X (e :: es) t)
    (hst : starEach (e :: es) X.env = (false, eval e X.env) :: starEach es X.env := by rfl) (hpl : (backTo pos (starEach es X.env)).any (·.1) = false := by rfl)
    (ht : eval (.Call (.Attribute o m apos) (e :: es) [] pos) X.env = (do
      let ov ← eval o X.env
      standAt apos.atName
      let (f, first) ← holding [ov] (getMethod ov m pl)
      callWith pos f first (backTo pos (starEach (e :: es) X.env)) (backToKw pos (keywordEach [] X.env))) := by rfl) :
    PE X (.Call (.Attribute o m apos) (e :: es) [] pos) (tMeth C m sp dvs E ta t) := by
  refine ⟨fun pins s σ H Q I h => ?_⟩
  refine PySem.W.methodCall_KW (pl := pl) (thn (he.run pins s σ H _ I h) fun u s1 ⟨x, H1, I1, rx, a, dx, fs, ex, ea, l, q⟩ => ?_) ht
  subst ex
  obtain rfl : u = Value.ref a := rx
  refine getmeth_ok I1 ea c hm l ?_
  refine PySem.W.callWith_K (first := [.ref a]) (h₀ := X.base) I.ok.mod.kin hm.kp (thn (ha.run pos pins s1 σ H1 _ I1 q) fun us s2 ⟨vs, H2, I2, r, q2⟩ => ⟨I2.kIn, ?_⟩) hst hpl
  exact call_fnG (us := .ref a :: us) (vs := .ref a :: vs) Fn hr hgd hb hd hx I2 (.cons rfl r) q2
theorem pe_methG0 {pl : Sem Bool} (he : PE X o ta) (c : Cls X.K C) (hm : Meth X.K C m f) (Fn : FnG X.prog X.w X.K X.mg X.base CX k f fd ps sp) (hr : Room k X.A) (hgd : X.A.guards = some []) (hb : Binds X.K fd ps ds) (hd : Vals dvs ds) (hx : Passes CX X E)
    (ht : eval (.Call (.Attribute o m apos) [] [] pos) X.env = (do
      let ov ← eval o X.env
      standAt apos.atName
      let (f, first) ← holding [ov] (getMethod ov m pl)
      callWith pos f first (backTo pos (starEach [] X.env)) (backToKw pos (keywordEach [] X.env))) := by rfl) :
    PE X (.Call (.Attribute o m apos) [] [] pos) (tMeth C m sp dvs E ta tNil) := by
  refine ⟨fun pins s σ H Q I h => ?_⟩
  refine PySem.W.methodCall_KW (pl := pl) (thn (he.run pins s σ H _ I h) fun u s1 ⟨x, H1, I1, rx, a, dx, fs, ex, ea, l, q⟩ => ?_) ht
  subst ex
  obtain rfl : u = Value.ref a := rx
  refine getmeth_ok I1 ea c hm l ?_
  exact PySem.W.callWith_K0 (first := [.ref a]) I1.kIn hm.kp (call_fnG (us := [.ref a]) (vs := [.ref a]) Fn hr hgd hb hd hx I1 (.cons rfl .nil) q)
end
theorem RepOf.no {K : Fg} {F H : Hp} {k : Str} : ∀ {zs : List (Str × V)} {os : List (Str × OV)} {f : AS}, RepOf K F H zs os f → os.lookup k = none → zs.lookup k = none
  | _, _, _, .nil _, _ => rfl
  | _, _, _, .cons (k := k1) h r x f, e => by
    rw [List.lookup_cons] at e ⊢
    cases hk : k == k1 with
    | true => rw [hk] at e; cases e
    | false => rw [hk] at e; exact RepOf.no r e
theorem argOs_noT {K : Fg} {F1 H1 : Hp} {σ : St} {ρ1 : Env} {ow : AS} : ∀ {vs : List V} {rs : List Res} {os : List OV} {tf : AS}, RepRs K F1 H1 σ ow vs rs tf → argOs ρ1 rs = some os → ∀ a, ¬ tf a := by
  intro vs rs
  induction rs generalizing vs with
  | nil =>
    intro os tf h _ a z
    cases vs with
    | nil => exact h a z
    | cons _ _ => exact h.elim
  | cons r rs ih =>
    intro os tf h eo a z
    cases vs with
    | nil => exact h.elim
    | cons v vs =>
      obtain ⟨f1, f2, h1, h2, _, ef⟩ := h
      have eo : ((argO ρ1 r).bind fun o => (argOs ρ1 rs).bind fun os => some (o :: os)) = some os := eo
      cases e1 : argO ρ1 r with
      | none => rw [e1] at eo; cases eo
      | some o1 =>
        rw [e1] at eo
        cases e2 : argOs ρ1 rs with
        | none => rw [e2] at eo; cases eo
        | some os1 =>
          rcases (ef a).mp z with z | z
          · cases r with
            | cl _ => exact h1.2 a z
            | sl _ _ => exact h1.2 a z
            | fr _ => cases e1
          · exact ih h2 e2 a z
/-- the receiver, then the arguments -/
def gMethC (C : Addr) (m : Str) (G : Spec) (n : Nat) (go : DE) (ga : DA) : DE := fun ρ Q => go ρ fun q1 r ρ1 => (∃ fs, r.ov ρ1 = some (.ins C fs) ∧ fs.lookup m = none) ∧ ga ρ1 fun q2 rs ρ2 => (r.deep = true → q2 = true) ∧
  ok (argOs ρ2 (r :: rs)) fun os => (slNd (r :: rs) = true ∧ (r :: rs).length = n) ∧ G os fun r' ρf => Q ((q1 && q2) && noSl (r :: rs)) r' (back ρ2 (r :: rs) ρf)
section
variable {X : Cx} {pv : Pins} {k : Nat} {f C : Addr} {fd : FuncData} {ps : List Str} {m : Str} {pos apos : Pos} {e o : Expr} {es : List Expr} {go : DE} {ga : DA} {G : Spec} {n : Nat}
theorem meth_lift {σ : St} {H : Hp} {Q : VK} (w : lift X.K pv (gMethC C m G n go ga) σ H Q) : tMeth C m (spD X.K pv.T n G) [] E0 (lift X.K pv go) (liftA X.K pv ga) σ H Q := by
  obtain ⟨ρ, F, fps, Q0, S, ex, h, kk⟩ := w
  refine ⟨ρ, F, fps, _, S, ex, h, fun q1 r1 ρ1 v1 H1 F1 fps1 f1 ⟨⟨os0, hov, hno⟩, h1⟩ S1 s1 e1 k1 => ?_⟩
  obtain ⟨fp, qd, _⟩ := e1.rep S1 hov
  cases qd with
  | ins g1 n1 r2 x1 f1' =>
    rename_i a dx zs fpx
    refine ⟨a, dx, zs, rfl, g1, r2.no hno, ρ1, F1, fps1, _, S1, ex.later s1, h1, fun q2 rs ρ2 vs H2 F2 fps2 f2 ⟨hq, os, eo, ⟨nd, hn⟩, g⟩ S2 s2 e2 k2 => ?_⟩
    show spD X.K pv.T n G (.ref a :: (vs ++ [])) H2 Q E0
    rw [List.append_nil]
    obtain ⟨e1', d⟩ := e1.later s2 fun z => (k2 (hq z)).1
    have er : RepRs X.K F2 H2 σ (own ρ2 fps2) (.ref a :: vs) (r1 :: rs) (orA f1 f2) := ⟨f1, f2, e1', e2, d, fun a => Iff.rfl⟩
    have tf0 := argOs_noT er eo
    have s12 : Step F H (own ρ fps) F2 H2 (own ρ2 fps2) := (s1.aside s2).less fun c z => .inl z
    refine call_core (G := fun os Q _ => G os Q) (X1 := fun _ _ => False) S2 er.each eo nd hn g (fun r ρf v H3 F3 fps3 f q1' S3 s3 e3 k3 => ?_) fun _ _ _ _ _ _ z => z.elim
    exact kk _ r _ v H3 F3 fps3 f q1' S3 (s12.trans s3) e3 fun z => by
      obtain ⟨z1, z2⟩ := Bool.and_eq_true_iff.mp z
      obtain ⟨z11, z12⟩ := Bool.and_eq_true_iff.mp z1
      obtain ⟨a1, a2, a3⟩ := k1 z11
      obtain ⟨c1, c2, c3⟩ := k2 z12
      obtain ⟨b1, b2, b3⟩ := k3 z2
      exact ⟨(a1.trans c1).trans b1, (b2.trans c2).trans a2, (b3.trans c3).trans a3⟩
theorem dv_methC (c : Cls X.K C) (hm : Meth X.K C m f) (Fn : FnG X.prog X.w X.K X.mg X.base CX0 k f fd ps (spD X.K pv.T n G)) (hr : Room k X.A) (hgd : X.A.guards = some []) (hb : Binds X.K fd ps []) (ho : DEv X pv o go) (ha : DAv X pv (e :: es) ga) {pl : Sem Bool}
    (hst : starEach (e :: es) X.env = (false, eval e X.env) :: starEach es X.env := by rfl) (hpl : (backTo pos (starEach es X.env)).any (·.1) = false := by rfl)
    (ht : eval (.Call (.Attribute o m apos) (e :: es) [] pos) X.env = (do
      let ov ← eval o X.env
      standAt apos.atName
      let (f, first) ← holding [ov] (getMethod ov m pl)
      callWith pos f first (backTo pos (starEach (e :: es) X.env)) (backToKw pos (keywordEach [] X.env))) := by rfl) :
    DEv X pv (.Call (.Attribute o m apos) (e :: es) [] pos) (gMethC C m G n go ga) :=
  PE.to (pe_methG (E := E0) ho c hm Fn hr hgd hb .nil pass0 ha hst hpl ht) fun σ H Q w => meth_lift w
theorem dv_methC0 (c : Cls X.K C) (hm : Meth X.K C m f) (Fn : FnG X.prog X.w X.K X.mg X.base CX0 k f fd ps (spD X.K pv.T n G)) (hr : Room k X.A) (hgd : X.A.guards = some []) (hb : Binds X.K fd ps []) (ho : DEv X pv o go) {pl : Sem Bool}
    (ht : eval (.Call (.Attribute o m apos) [] [] pos) X.env = (do
      let ov ← eval o X.env
      standAt apos.atName
      let (f, first) ← holding [ov] (getMethod ov m pl)
      callWith pos f first (backTo pos (starEach [] X.env)) (backToKw pos (keywordEach [] X.env))) := by rfl) :
    DEv X pv (.Call (.Attribute o m apos) [] [] pos) (gMethC C m G n go gNil) :=
  PE.to (pe_methG0 (E := E0) ho c hm Fn hr hgd hb .nil pass0 ht) fun σ H Q w => by
    obtain ⟨ρ, F, fps, Q1, S, ex, h, k⟩ := meth_lift w
    refine ⟨ρ, F, fps, Q1, S, ex, h, fun q1 r1 ρ1 v1 H1 F1 fps1 f1 h1 S1 s1 e1 k1 => ?_⟩
    obtain ⟨a, dx, fs, e1, e2, e3, ρ2, F2, fps2, Q2, S2, ex2, g2, kk⟩ := k q1 r1 ρ1 v1 H1 F1 fps1 f1 h1 S1 s1 e1 k1
    exact ⟨a, dx, fs, e1, e2, e3, kk true [] ρ2 [] H1 F2 fps2 noA g2 S2 S2.same (fun _ z => z) fun _ => ⟨LamX.ExtN.refl H1, rfl, rfl⟩⟩
end
end Dt

namespace Dt
open PySem PySem.Spec PyProof.Rows L2
/-! ### objects: C(..) -/
theorem make_guards {A : Around} {C : Addr} {us : List Value} {kw : List (Str × Value)} : (A.under (.builtin "type.__call__" ⟨.ref C :: us, kw⟩)).guards = A.guards := by
  first | rfl | simp [Around.under, Code.weight, Code.isCreation, Code.isGuard, Code.isCaller, Code.frames, Code.isFrame, guardIds]
section
variable {X : Cx} {CX : CXT} {k : Nat} {f C : Addr} {fd : FuncData} {ps : List Str} {sp : Sp} {dvs : List V} {ds : List Value} {E : XK} {x : Str} {p pos : Pos} {e : Expr} {es : List Expr} {t : TA}
theorem run_makeG {pins : List (Addr × Obj)} {σ : L2.St} {H : Hp} {s : Shared} {Q : VK} {us : List Value} {vs : List V} (M : Mk X.K C f) (Fn : FnG X.prog X.w X.K X.mg X.base CX k f fd ps sp) (hr : Room (k + 1) X.A) (hgd : X.A.guards = some []) (hb : Binds X.K fd ps ds) (hd : Vals dvs ds)
    (hx : Passes CX X E) (I : Inv X pins σ H s) (r : Vals vs us)
    (h : ∀ x dx, H x = none → H dx = none → dx ≠ x → sp (.ref x :: (vs ++ dvs)) (upd (upd H dx (.own x)) x (.ins C dx [])) (fun v H2 => v = .non ∧ Q (.ref x) H2) E) :
    wpAny (model X.prog X.w) X.A (call (.ref C) us) (EP X pins σ Q) X.xe s := by
  have hq := h (s.heap.objs.size + 1) s.heap.objs.size (I.hok.fresh (Nat.le_succ _)) (I.hok.fresh (Nat.le_refl _)) (Nat.ne_of_lt (Nat.lt_succ_self _))
  have I2 := Inv.made (C := C) I
  have r2 : Vals (V.ref (s.heap.objs.size + 1) :: (vs ++ dvs)) (Value.ref (s.heap.objs.size + 1) :: (us ++ ds)) := .cons rfl (r.append hd)
  have hl : (Value.ref (s.heap.objs.size + 1) :: us ++ ds).length = ps.length := by
    have e := r2.length
    rw [Fn.len _ _ _ _ hq] at e
    exact e.symm
  refine wpAny_call (make_map (f := f) I.kIn M.makes M.init (beq_iff_eq.mp M.fn) (codeAny_mono (Fn.run _ X.stack _ _ ⟨Value.ref (s.heap.objs.size + 1) :: us, []⟩ (Value.ref (s.heap.objs.size + 1) :: (us ++ ds)) _ _ E (hr.make C us []) (make_guards.trans hgd)
    (I2.env0.make C us []) (hb _ (Value.ref (s.heap.objs.size + 1) :: us) I2.kIn hl) r2 hq) fun r s' hq' => ?_))
  cases r with
  | error e => exact hx pins σ _ _ e s' I2 hq'
  | ok fl =>
    cases fl with
    | ret u =>
      obtain ⟨v, H', I3, rv, ev, q3⟩ := I2.after hq'
      subst ev
      exact ⟨rv, ⟨V.ref (s.heap.objs.size + 1), H', I3, rfl, q3⟩⟩
    | next => exact False.elim hq'
    | brk => exact False.elim hq'
    | cont => exact False.elim hq'
theorem pe_makeG (M : Mk X.K C f) (Fn : FnG X.prog X.w X.K X.mg X.base CX k f fd ps sp) (hr : Room (k + 1) X.A) (hgd : X.A.guards = some []) (hg : Gl X x) (hm : X.mg x = some (.ref C)) (hb : Binds X.K fd ps ds) (hd : Vals dvs ds) (hx : Passes CX X E)
    (ha : PA X (e :: es) t) (hdb : (x == ("__debug__" : Str)) = false := by decide) (he : starEach (e :: es) X.env = (false, eval e X.env) :: starEach es X.env := by rfl) (hpl : (backTo pos (starEach es X.env)).any (·.1) = false := by rfl) :
    PE X (.Call (.Name x p) (e :: es) [] pos) (tMake C sp dvs E t) := by
  refine ⟨fun pins s σ H Q I h => ?_⟩
  refine wpAny_Call_Name_kw (ld_glob I hg hm ?_ hdb)
  refine PySem.W.callWith_K (h₀ := X.base) I.ok.mod.kin M.kp (thn (ha.run pos pins s σ H _ I h) fun us s1 ⟨vs, H1, I1, r, q⟩ => ⟨I1.kIn, ?_⟩) he hpl
  exact run_makeG M Fn hr hgd hb hd hx I1 r q
end
theorem reps_cl {K : Fg} {F H : Hp} {σ : L2.St} {ow : AS} : ∀ {ds : List PyData} {vs : List V} {tf : AS}, RepRs K F H σ ow vs (ds.map Res.cl) tf → Reps K F vs ds
  | [], [], _, _ => .nil
  | [], _ :: _, _, h => h.elim
  | _ :: _, [], _, h => h.elim
  | d :: ds, v :: vs, tf, ⟨f1, f2, h1, h2, _, _⟩ => .cons h1.1 (reps_cl h2)
theorem Reps.at {K : Fg} {F : Hp} : ∀ {vs : List V} {ds : List PyData} {i : Nat} {d : PyData}, Reps K F vs ds → ds[i]? = some d → ∃ v, vs[i]? = some v ∧ Rep K F v d
  | _, _, _, _, .nil, e => by simp at e
  | _, _, 0, _, .cons h r, e => by
    have e := Option.some.inj (by simpa using e)
    subst e
    exact ⟨_, rfl, h⟩
  | _, _, i + 1, _, .cons h r, e => by
    rw [List.getElem?_cons_succ] at e
    rw [List.getElem?_cons_succ]
    exact Reps.at r e
/-- clean values alone -/
def clsR : List Res → Option (List PyData)
  | [] => some []
  | .cl d :: rs => (clsR rs).map fun ds => d :: ds
  | _ :: _ => none
theorem clsR_eq : ∀ {rs : List Res} {ds : List PyData}, clsR rs = some ds → rs = ds.map Res.cl
  | [], ds, e => by cases e; rfl
  | .cl d :: rs, ds, e => by
    have e : ((clsR rs).map fun ds => d :: ds) = some ds := e
    cases h : clsR rs with
    | none => rw [h] at e; cases e
    | some l => rw [h] at e; cases e; rw [clsR_eq h]; rfl
  | .fr _ :: _, _, e => by cases e
  | .sl _ _ :: _, _, e => by cases e
def gMake (C : Addr) (G : Spec) (n : Nat) (ga : DA) : DE := fun ρ Q => ga ρ fun _ rs ρ1 => ok (clsR rs) fun ds => rs.length + 1 = n ∧ G (.ins C [] :: ds.map .fr) fun r ρf => r = .cl .none ∧ ∃ o ρr, ρf = some o :: ρr ∧ Q false (.fr o) ρ1
section
variable {X : Cx} {pv : Pins} {k : Nat} {f C : Addr} {fd : FuncData} {ps : List Str} {x : Str} {p pos : Pos} {e : Expr} {es : List Expr} {ga : DA} {G : Spec} {n : Nat}
theorem dv_make (M : Mk X.K C f) (Fn : FnG X.prog X.w X.K X.mg X.base CX0 k f fd ps (spD X.K pv.T n G)) (hr : Room (k + 1) X.A) (hgd : X.A.guards = some []) (hg : Gl X x) (hm : X.mg x = some (.ref C)) (hb : Binds X.K fd ps []) (ha : DAv X pv (e :: es) ga)
    (hdb : (x == ("__debug__" : Str)) = false := by decide) (he : starEach (e :: es) X.env = (false, eval e X.env) :: starEach es X.env := by rfl) (hpl : (backTo pos (starEach es X.env)).any (·.1) = false := by rfl) :
    DEv X pv (.Call (.Name x p) (e :: es) [] pos) (gMake C G n ga) :=
  PE.to (pe_makeG (E := E0) M Fn hr hgd hg hm hb .nil pass0 ha hdb he hpl) fun σ H Q ⟨ρ, F, fps, Q0, S, ex, h, kk⟩ => by
    refine ⟨ρ, F, fps, _, S, ex, h, fun q rs ρ1 vs H1 F1 fps1 tf ⟨ds, eds, hn, g⟩ S1 s1 er kq => ?_⟩
    intro a dx ha hdx hne
    obtain rfl := clsR_eq eds
    have RR := reps_cl er
    rw [List.append_nil]
    have hl := RR.length
    have sm : Same H1 (upd (upd H1 dx (.own a)) a (.ins C dx [])) := (same_upd hdx).trans (same_upd (by rw [upd_ne hne.symm]; exact ha))
    have nF : ∀ b, H1 b = none → F1 b = none := fun b hb => by
      cases q : F1 b with
      | none => rfl
      | some o => have := S1.le _ _ q; rw [hb] at this; cases this
    have S2 : Sta X.K (Pins.no pv.T) F1 (upd (upd H1 dx (.own a)) a (.ins C dx [])) ((V.ref a :: vs).map some) (((OV.ins C [] :: ds.map OV.fr) : List OV).map some) (fun i b => i = 0 ∧ b = a) := by
      refine ⟨S1.le.trans sm, by simp [hl], fun i o ho => ?_, fun i j o o' nij _ _ b hb hb' => nij (hb.1.trans hb'.1.symm), (fun i v hv => by cases i <;> cases hv), S1.nt, S1.tab.ext sm⟩
      cases i with
      | zero =>
        have ho : o = OV.ins C [] := (Option.some.inj (Option.some.inj (by simpa using ho))).symm
        subst ho
        refine ⟨_, rfl, .ins (fp1 := noA) upd_same (nF a ha) (.nil fun _ z => z) (fun z => z) fun b => ?_⟩
        exact ⟨fun z => .inl z.2, fun z => z.elim (fun z => ⟨rfl, z⟩) fun z => z.elim⟩
      | succ i =>
        have ho : ((ds.map OV.fr).map some)[i]? = some (some o) := by simpa using ho
        rw [List.map_map, List.getElem?_map] at ho
        cases hd : ds[i]? with
        | none => rw [hd] at ho; cases ho
        | some d =>
          rw [hd] at ho
          cases ho
          obtain ⟨v, hv, rv⟩ := RR.at hd
          refine ⟨v, ?_, .fr rv fun b z => absurd z.1 (by omega)⟩
          show (vs.map some)[i]? = some (some v)
          rw [List.getElem?_map, hv]
          rfl
    refine ⟨_, F1, _, _, fun _ _ => False, ?_, S2, g, fun r ρf v H' F' fps' f1 ⟨er2, o, ρr, eρ, q0⟩ S' s er' => ?_, fun _ _ _ _ _ _ z => z.elim⟩
    · have : (ds.map Res.cl).length + 1 = n := hn
      rw [List.length_map] at this
      simp [this]
    subst er2
    subst eρ
    obtain ⟨v0, hv0, r0⟩ := S'.rep 0 o rfl
    have hv0 : v0 = V.ref a := by
      have : ((V.ref a :: vs).map some)[0]? = some (some v0) := hv0
      simpa using this.symm
    subst hv0
    have vn : v = .non := by
      cases er'.1
      rfl
    have keep : ∀ b, H1 b ≠ none → F1 b = none → Kp (H1 b) (H' b) ∧ F' b = none ∧ ¬ (orA (own (some o :: ρr) fps') f1) b := fun b h1 h2 => by
      have na : b ≠ a := fun z => by subst z; exact h1 ha
      have nd : b ≠ dx := fun z => by subst z; exact h1 hdx
      have e2 : upd (upd H1 dx (.own a)) a (.ins C dx []) b = H1 b := by rw [upd_ne na, upd_ne nd]
      have := s.fr b (by rw [e2]; exact h1) h2 fun ⟨i, o', _, z⟩ => na z.2
      rw [e2] at this
      exact this
    refine ⟨vn, ?_⟩
    have S3 : Sta X.K pv F' H' σ ρ1 fps1 := S1.grow s.le S'.le S'.nt S'.tab fun b hb => by
      obtain ⟨h1, h2, _⟩ := S1.ow_out hb
      obtain ⟨k1, k2, _⟩ := keep b h2 h1
      exact ⟨k1.eq (S1.ow_noT hb), k2⟩
    have dj : ∀ b, fps' 0 b → ¬ own ρ1 fps1 b := fun b hb hb2 => by
      obtain ⟨h1, h2, _⟩ := S1.ow_out hb2
      obtain ⟨_, _, k3⟩ := keep b h2 h1
      exact k3 (.inl ⟨0, o, rfl, hb⟩)
    refine kk false (.fr o) ρ1 (.ref a) H' F' fps1 (fps' 0) q0 S3 ⟨s1.le.trans s.le, fun b h1 h2 h3 => ?_⟩ ⟨r0, fun b hb z => dj b hb z⟩ fun z => by cases z
    obtain ⟨q1, q2, q3⟩ := s1.fr b h1 h2 h3
    obtain ⟨k1, k2, k3⟩ := keep b (q1.ne h1) q2
    refine ⟨q1.trans k1, k2, ?_⟩
    rintro (z | z)
    · exact q3 (.inl z)
    · exact k3 (.inl ⟨0, o, rfl, z⟩)
end
end Dt

namespace Dt
open PySem PySem.Spec PyProof.Rows L2
/-! ### objects: an attribute as a target among others -/
def gFldT (K : Fg) (to : TE) (f : Str) : TG := fun v σ H Q => to σ H fun x H1 => ∃ a C dx fs, x = .ref a ∧ H1 a = some (.ins C dx fs) ∧ Cls K C ∧ NoAttr K C f ∧ fs.length < 1000 ∧ Q σ (upd H1 a (.ins C dx (putF f v fs)))
section
variable {X : Cx} {pv : Pins} {pos pos' apos : Pos} {o : Expr} {go : DE} {to : TE} {C : Addr} {f : Str}
theorem pg_fld (ho : PE X o to) : PG X (.Attribute o f pos) (gFldT X.K to f) := by
  refine ⟨fun pins s σ H v u Q I r h => ?_⟩
  rw [assign_Attribute]
  refine wpAny_bind (wpAny_holding (thn (ho.run pins s σ H _ I h) fun ov s1 ⟨x, H1, I1, r1, a, C, dx, fs, ex, ea, c, n, l, q⟩ => ?_))
  subst ex
  obtain rfl : ov = Value.ref a := r1
  refine wpAny_bind (wpAny_standAt (wpAny_bind (wpAny_holding (setattr_ok I1 ea c n l r fun s2 I2 => ?_))))
  exact wpAny_release ⟨σ, _, I2, q⟩
def gATg (C : Addr) (f : Str) (go : DE) : DG := fun d ρ Q => go ρ fun _ ro ρ2 => ok (insAt ρ2 ro) fun t => (t.2.2.1 = C ∧ t.2.2.2.length < 1000) ∧ Q (putAt ρ2 t.1 t.2.1 (.ins C (putA f (.fr d) t.2.2.2)))
theorem dg_att (c : Cls X.K C) (n : NoAttr X.K C f) (ho : DEv X pv o go) : DGv X pv [] (.Attribute o f pos) (gATg C f go) :=
  PG.to (pg_fld ho) fun v σ H Q ⟨ρ, F, fps, d, Q0, S, ex, r, h, k⟩ => by
    have r : Rep X.K F v d := r
    refine ⟨ρ, F, fps, _, S, ex, h, fun q ro ρ2 x H2 F2 fps2 f2 ⟨⟨i, p, C1, os⟩, a4, ⟨hC, hz⟩, q0⟩ S2 s2 e2 k2 => ?_⟩
    have hC : C1 = C := hC
    subst hC
    obtain ⟨rfl, hov⟩ := insAt_inv a4
    obtain ⟨fp, qd, _⟩ := e2.rep S2 hov
    have r2 : RepO X.K F2 H2 v (.fr d) noA := .fr (r.mono s2.le) fun _ z => z
    cases qd with
    | ins g1 n1 r1 x1 f1' =>
      rename_i a dx zs fpx
      obtain ⟨fps', S4, o4, oa⟩ := S2.change (a := a) (ho := .ins C1 dx (putF f v zs)) (ft := noA) e2 hov (Chg.aput (os := os) (o := .fr d) g1 r2 fun z => z) fun b z => z.elim
      have hl : zs.length < 1000 := by rw [r1.len]; exact hz
      refine ⟨a, C1, dx, zs, rfl, g1, c, n, hl, k _ σ _ F2 fps' q0 S4 ?_ (Alike.refl _ _)⟩
      exact Step.change (ft := noA) (s2.less fun c z => z.elim .inl fun z => z.elim) oa o4
end
end Dt

namespace Dt
open PySem PySem.Spec PyProof.Rows L2
/-! ### objects: going on -/
section
variable {C : Addr} {f m : Str} {q : Bool} {r r' rv ro : Res} {ρ ρ' : Env} {Q : Bool → Res → Env → Prop} {g go gv : DE} {gs ga : DA} {G : Spec} {n i : Nat} {p : List PK} {rs : List Res} {o : OV} {fs : List (Str × OV)} {ds : List PyData} {d : PyData}
abbrev attK (C : Addr) (f : Str) (q : Bool) (r : Res) (ρ : Env) (Q : Bool → Res → Env → Prop) : Prop := ok (attR f ρ r) fun t => t.1 = C ∧ Q q t.2 ρ
theorem gAtt_i (h : g ρ fun q r ρ1 => attK C f q r ρ1 Q) : gAtt C f g ρ Q := h
theorem attK_i (e : attR f ρ r = some (C, r')) (h : Q q r' ρ) : attK C f q r ρ Q := ⟨_, e, rfl, h⟩
abbrev asetK (C : Addr) (f : Str) (q : Bool) (rv ro : Res) (ρ : Env) (K : Env → Prop) : Prop := (rv.deep = false ∨ q = true) ∧ ok (keepR ρ rv) fun o => ok (insAt ρ ro) fun t => (t.2.2.1 = C ∧ t.2.2.2.length < 1000) ∧ K (putAt ρ t.1 t.2.1 (.ins C (putA f o t.2.2.2)))
theorem gASet_i {nx : Env → Prop} {rt : Res → Env → Prop} {ct : Env → Prop} (h : gv ρ fun _ rv ρ1 => go ρ1 fun q ro ρ2 => asetK C f q rv ro ρ2 nx) : gASet C f go gv { nx := nx, rt := rt, ct := ct } ρ := h
theorem asetK_i {K : Env → Prop} (hd : rv.deep = false) (e3 : keepR ρ rv = some o) (e4 : insAt ρ ro = some (i, p, C, fs)) (h2 : fs.length ≤ 100) (e : putAt ρ i p (.ins C (putA f o fs)) = ρ') (h : K ρ') : asetK C f q rv ro ρ K := by
  subst e
  exact ⟨.inl hd, _, e3, _, e4, ⟨rfl, Nat.lt_of_le_of_lt h2 (by decide)⟩, h⟩
abbrev atgK (C : Addr) (f : Str) (d : PyData) (ro : Res) (ρ : Env) (K : Env → Prop) : Prop := ok (insAt ρ ro) fun t => (t.2.2.1 = C ∧ t.2.2.2.length < 1000) ∧ K (putAt ρ t.1 t.2.1 (.ins C (putA f (.fr d) t.2.2.2)))
theorem gATg_i {K : Env → Prop} (h : go ρ fun _ ro ρ2 => atgK C f d ro ρ2 K) : gATg C f go d ρ K := h
abbrev insNo (C : Addr) (m : Str) (r : Res) (ρ : Env) : Prop := ∃ fs, r.ov ρ = some (.ins C fs) ∧ fs.lookup m = none
theorem gMethC_i (h : go ρ fun q1 r ρ1 => insNo C m r ρ1 ∧ ga ρ1 fun q2 rs ρ2 => (r.deep = true → q2 = true) ∧ callK G n (q1 && q2) (r :: rs) ρ2 Q) : gMethC C m G n go ga ρ Q := h
abbrev makeK (C : Addr) (G : Spec) (n : Nat) (rs : List Res) (ρ : Env) (Q : Bool → Res → Env → Prop) : Prop := ok (clsR rs) fun ds => rs.length + 1 = n ∧ G (.ins C [] :: ds.map .fr) fun r ρf => r = .cl .none ∧ ∃ o ρr, ρf = some o :: ρr ∧ Q false (.fr o) ρ
theorem gMake_i (h : ga ρ fun _ rs ρ1 => makeK C G n rs ρ1 Q) : gMake C G n ga ρ Q := h
theorem makeK_i (e : clsR rs = some ds) (hl : rs.length + 1 = n) (h : G (.ins C [] :: ds.map .fr) fun r ρf => r = .cl .none ∧ ∃ o ρr, ρf = some o :: ρr ∧ Q false (.fr o) ρ) : makeK C G n rs ρ Q := ⟨_, e, hl, h⟩
end
end Dt

namespace Dt
open PySem PySem.Spec PyProof.Rows L2
section
variable {X : Cx} {pv : Pins} {pos : Pos}
/-- a, b, c = x, y, z where a name is captured: a tuple is made, and taken apart -/
theorem ps_par3T {i j l : Nat} {x y z : Str} {a b c : Expr} {ta : TA} {px py pz pt pos : Pos} {kt k2 pt2} (hc : X.calm = true) (hN : X.N.Nodup) (hi : X.N[i]? = some x) (hj : X.N[j]? = some y) (hl3 : X.N[l]? = some z) (hx : Loc X.env.scope x) (hy : Loc X.env.scope y) (hz : Loc X.env.scope z)
    (fx : X.fn x = true ∨ X.env.scope.names.lookup x = some .local) (fy : X.fn y = true ∨ X.env.scope.names.lookup y = some .local) (fz : X.fn z = true ∨ X.env.scope.names.lookup z = some .local) (ha : PA X [a, b, c] ta)
    (hs : swapsWithSole [.Tuple [.Name x px, .Name y py, .Name z pz] kt pt] (.Tuple [a, b, c] k2 pt2) pos.line X.env = pure false := by rfl) (hw : swappedStores [.Tuple [.Name x px, .Name y py, .Name z pz] kt pt] (.Tuple [a, b, c] k2 pt2) X.env = pure none := by rfl)
    (h1 : (assignEach [.Tuple [.Name x px, .Name y py, .Name z pz] kt pt] X.env).map (·.2) = [assign (.Tuple [.Name x px, .Name y py, .Name z pz] kt pt) X.env] := by rfl)
    (hn : (assignEach [.Name x px, .Name y py, .Name z pz] X.env).length = 3 := by rfl) (hst : (assignEach [.Name x px, .Name y py, .Name z pz] X.env).findIdx? (·.1) = none := by rfl) :
    PS X (.Assign [.Tuple [.Name x px, .Name y py, .Name z pz] kt pt] (.Tuple [a, b, c] k2 pt2) pos) (tPar3 i j l ta) := by
  refine ⟨fun pins s σ H D I h => ?_⟩
  refine wpAny_Assign_stores (wpAny_Tuple_spliced (thn (ha.run _ pins s σ H _ I h) fun us s1 ⟨vs, H1, I1, r1, v, w, u, e, q⟩ => ?_)) hs hw
  subst e
  have hl : us.length = 3 := by
    have := r1.length
    simpa using this.symm
  refine ⟨by rw [hl, sizeLine_eq]; omega, ?_⟩
  rw [h1]
  have I2 : Inv X pins σ H1 { s1 with heap := s1.heap.push { cls := .type "tuple", data := .seq us.toArray } } := I1.kept (t' := s1.toks) fun b o e => Heap.get?_push_of_some _ e
  have pg := pgs_cons (pg_name (pos := px) hN hi hx fx) (pgs_cons (pg_name (pos := py) hN hj hy fy) (pgs_cons (pg_name (pos := pz) hN hl3 hz fz) pgs_nil))
  have lay : wpAny (model X.prog X.w) X.A (assign (.Tuple [.Name x px, .Name y py, .Name z pz] kt pt) X.env (.ref s1.heap.objs.size)) (fun _ s' => ∃ σ' H', Inv X pins σ' H' s' ∧ D.nx σ' H') X.xe { s1 with heap := s1.heap.push { cls := .type "tuple", data := .seq us.toArray } } := by
    refine assign_Tuple_tuple (items := us.toArray) (I1.ok.hd hc) ⟨_, Heap.get?_push_size _ rfl, rfl, _, rfl⟩ (by rw [hn, List.size_toArray, hl]) hst fun h' hx' => ?_
    have I3 : Inv X pins σ H1 { s1 with heap := h' } := I2.kept (t' := s1.toks) fun b o e => hx' b o (Nat.ne_of_lt (Heap.lt_size e)) e
    exact pg.run pins _ σ H1 [v, w, u] _ D.nx I3 (by simpa using r1) ⟨v, [w, u], rfl, w, [u], rfl, u, [], rfl, rfl, q⟩
  exact thn lay fun _ s2 q => q
theorem ds_par3G {i j l : Nat} {x y z : Str} {a b c : Expr} {ga : DA} {px py pz pt : Pos} {kt k2 pt2} (hij : i ≠ j) (hil : i ≠ l) (hjl : j ≠ l)
    (hpi : (pv.l[i]?).join = none) (hpj : (pv.l[j]?).join = none) (hpl : (pv.l[l]?).join = none)
    (hps : PS X (.Assign [.Tuple [.Name x px, .Name y py, .Name z pz] kt pt] (.Tuple [a, b, c] k2 pt2) pos) (tPar3 i j l (liftA X.K pv ga))) : DSv X pv (.Assign [.Tuple [.Name x px, .Name y py, .Name z pz] kt pt] (.Tuple [a, b, c] k2 pt2) pos) (gPar3 i j l ga) :=
  PS.to hps fun D σ H ⟨ρ, F, fps, D0, S, h, en⟩ => by
    refine ⟨ρ, F, fps, _, S, en.ex, h, fun q rs ρ' vs H' F' fps' f q0 S' s er _ => ?_⟩
    match rs, q0, er with
    | [r1, r2, r3], ⟨⟨l1, l2, l3⟩, o1, e1, o2, e2, o3, e3, q0⟩, er =>
      match vs, er with
      | [v, w, u], ⟨f1, f2, R1, ⟨f3, f4, R2, ⟨f5, f6, R3, hn, _, ef3⟩, dj2, ef2⟩, dj, ef⟩ =>
        refine ⟨v, w, u, rfl, ?_⟩
        have ro1 := keepR_rep S' R1 e1
        have ro2 := keepR_rep S' R2 e2
        have ro3 := keepR_rep S' R3 e3
        have t2 : ∀ {b : Addr}, f3 b → f2 b := fun {b} z => (ef2 b).mpr (.inl z)
        have t3 : ∀ {b : Addr}, f5 b → f4 b := fun {b} z => (ef3 b).mpr (.inl z)
        have t4 : ∀ {b : Addr}, f4 b → f2 b := fun {b} z => (ef2 b).mpr (.inr z)
        obtain ⟨S1, o1'⟩ := S'.put (noPin hpi) l1 ro1 fun b p => (R1.out b p).2.2.1
        obtain ⟨S2, o2'⟩ := S1.put (noPin hpj) (by rw [List.length_set]; exact l2) ro2 fun b p z => by
          rcases o1' b z with z | z
          · exact (R2.out b p).2.2.1 z
          · exact dj b z (t2 p)
        obtain ⟨S3, o3'⟩ := S2.put (noPin hpl) (by rw [List.length_set, List.length_set]; exact l3) ro3 fun b p z => by
          rcases o2' b z with z | z
          · rcases o1' b z with z | z
            · exact (R3.out b p).2.2.1 z
            · exact dj b z (t4 (t3 p))
          · exact dj2 b z (t3 p)
        refine en.nx _ _ H' F' _ q0 S3 (s.less fun b z => ?_)
        rcases o3' b z with z | z
        · rcases o2' b z with z | z
          · rcases o1' b z with z | z
            · exact .inl z
            · exact .inr ((ef b).mpr (.inl z))
          · exact .inr ((ef b).mpr (.inr (t2 z)))
        · exact .inr ((ef b).mpr (.inr (t4 (t3 z))))
theorem ds_par3T {i j l : Nat} {x y z : Str} {a b c : Expr} {ga : DA} {px py pz pt : Pos} {kt k2 pt2} (hc : X.calm = true) (hN : X.N.Nodup) (hi : X.N[i]? = some x) (hj : X.N[j]? = some y) (hl : X.N[l]? = some z) (hij : i ≠ j) (hil : i ≠ l) (hjl : j ≠ l)
    (hpi : (pv.l[i]?).join = none) (hpj : (pv.l[j]?).join = none) (hpl : (pv.l[l]?).join = none) (hx : Loc X.env.scope x) (hy : Loc X.env.scope y) (hz : Loc X.env.scope z) (ha : DAv X pv [a, b, c] ga)
    (fx : X.fn x = true ∨ X.env.scope.names.lookup x = some .local := by first | exact .inl rfl | exact .inr rfl) (fy : X.fn y = true ∨ X.env.scope.names.lookup y = some .local := by first | exact .inl rfl | exact .inr rfl) (fz : X.fn z = true ∨ X.env.scope.names.lookup z = some .local := by first | exact .inl rfl | exact .inr rfl)
    (hs : swapsWithSole [.Tuple [.Name x px, .Name y py, .Name z pz] kt pt] (.Tuple [a, b, c] k2 pt2) pos.line X.env = pure false := by rfl) (hw : swappedStores [.Tuple [.Name x px, .Name y py, .Name z pz] kt pt] (.Tuple [a, b, c] k2 pt2) X.env = pure none := by rfl)
    (h1 : (assignEach [.Tuple [.Name x px, .Name y py, .Name z pz] kt pt] X.env).map (·.2) = [assign (.Tuple [.Name x px, .Name y py, .Name z pz] kt pt) X.env] := by rfl)
    (hn : (assignEach [.Name x px, .Name y py, .Name z pz] X.env).length = 3 := by rfl) (hst : (assignEach [.Name x px, .Name y py, .Name z pz] X.env).findIdx? (·.1) = none := by rfl) :
    DSv X pv (.Assign [.Tuple [.Name x px, .Name y py, .Name z pz] kt pt] (.Tuple [a, b, c] k2 pt2) pos) (gPar3 i j l ga) :=
  ds_par3G hij hil hjl hpi hpj hpl (ps_par3T hc hN hi hj hl hx hy hz fx fy fz ha hs hw h1 hn hst)
end
end Dt

namespace Dt
open PySem PySem.Spec
/-! ### odd sets in order: which stands where -/
/-- how many ways to take of so many things as many as a parity -/
def lotN (k p : Nat) : Nat := if k = 0 then 1 - p else 2 ^ (k - 1)
/-- nothing, if that is right -/
def eN (s t : Nat) : List (List Nat) := if s = 0 ∧ t = 0 then [[]] else []
/-- all that are not empty, of the numbers from lo on, d of them; s: parity of how many, t: parity of the sum -/
def neL : Nat → Nat → Nat → Nat → List (List Nat)
  | 0, _, _, _ => []
  | d + 1, lo, s, t => (eN (1 - s) ((t + lo) % 2) ++ neL d (lo + 1) (1 - s) ((t + lo) % 2)).map (lo :: ·) ++ neL d (lo + 1) s t
def oddN (d lo : Nat) : Nat := (lo + d) / 2 - lo / 2
def cntN (d lo s t : Nat) : Nat := lotN (oddN d lo) t * lotN (d - oddN d lo) ((s + t) % 2)
theorem lotN_two (k : Nat) {p : Nat} (h : p < 2) : lotN k p + lotN k ((p + 1) % 2) = lotN (k + 1) p := by
  unfold lotN
  rw [if_neg (Nat.succ_ne_zero k), Nat.add_sub_cancel]
  have : p = 0 ∨ p = 1 := by omega
  by_cases hk : k = 0
  · subst hk
    rcases this with rfl | rfl <;> rfl
  · rw [if_neg hk, if_neg hk]
    obtain ⟨j, rfl⟩ := Nat.exists_eq_succ_of_ne_zero hk
    rw [Nat.succ_sub_one, Nat.pow_succ]
    omega
theorem cntN_step (d lo : Nat) {s t : Nat} (hs : s < 2) (ht : t < 2) : cntN (d + 1) lo s t = cntN d (lo + 1) (1 - s) ((t + lo) % 2) + cntN d (lo + 1) s t := by
  unfold cntN oddN
  rcases Nat.mod_two_eq_zero_or_one lo with h | h
  · -- even
    have e1 : lo + (d + 1) = lo + 1 + d := by omega
    have e2 : (lo + 1) / 2 = lo / 2 := by omega
    rw [e1, e2, show (t + lo) % 2 = t by omega]
    have hb : (lo + 1 + d) / 2 - lo / 2 ≤ d := by omega
    rw [show d + 1 - ((lo + 1 + d) / 2 - lo / 2) = d - ((lo + 1 + d) / 2 - lo / 2) + 1 by omega]
    rw [← lotN_two _ (Nat.mod_lt (s + t) (by omega)), Nat.mul_add, show ((s + t) % 2 + 1) % 2 = (1 - s + t) % 2 by omega, Nat.add_comm]
  · have e1 : lo + (d + 1) = lo + 1 + d := by omega
    have e2 : (lo + 1) / 2 = lo / 2 + 1 := by omega
    rw [e1, e2, show (t + lo) % 2 = (t + 1) % 2 by omega]
    have hb : lo / 2 + 1 ≤ (lo + 1 + d) / 2 := by omega
    rw [show (lo + 1 + d) / 2 - lo / 2 = (lo + 1 + d) / 2 - (lo / 2 + 1) + 1 by omega]
    rw [show d + 1 - ((lo + 1 + d) / 2 - (lo / 2 + 1) + 1) = d - ((lo + 1 + d) / 2 - (lo / 2 + 1)) by omega]
    rw [← lotN_two _ ht, Nat.add_mul, show (1 - s + (t + 1) % 2) % 2 = (s + t) % 2 by omega, Nat.add_comm]
theorem neL_len : ∀ (d lo : Nat) {s t : Nat}, s < 2 → t < 2 → (eN s t ++ neL d lo s t).length = cntN d lo s t
  | 0, lo, s, t, hs, ht => by
    have hs : s = 0 ∨ s = 1 := by omega
    have ht : t = 0 ∨ t = 1 := by omega
    unfold cntN oddN neL
    rw [Nat.add_zero, Nat.sub_self, Nat.sub_zero]
    rcases hs with rfl | rfl <;> rcases ht with rfl | rfl <;> rfl
  | d + 1, lo, s, t, hs, ht => by
    rw [cntN_step d lo hs ht, ← neL_len d (lo + 1) (show 1 - s < 2 by omega) (Nat.mod_lt (t + lo) (by omega)), ← neL_len d (lo + 1) hs ht]
    rw [show neL (d + 1) lo s t = (eN (1 - s) ((t + lo) % 2) ++ neL d (lo + 1) (1 - s) ((t + lo) % 2)).map (lo :: ·) ++ neL d (lo + 1) s t from rfl]
    simp only [List.length_append, List.length_map]
    omega
/-- the number behind the last that may follow -/
def bndN (m : Nat) (T : List Nat) (x : Nat) : Nat := if x = 0 ∨ T.head? = some 0 then m - 1 else m
/-- those that begin with a number behind T, but for it -/
def blkN (m : Nat) (T : List Nat) (x s t : Nat) : List (List Nat) := eN (1 - s) ((t + x) % 2) ++ neL (bndN m T x - (x + 1)) (x + 1) (1 - s) ((t + x) % 2)
/-- what may stand behind T, from low on, not empty -/
def cmpN (m : Nat) (T : List Nat) (low s t : Nat) : List (List Nat) := if T = [] ∧ low = 0 then (blkN m [] 0 s t).map (0 :: ·) ++ neL (m - 1) 1 s t else neL (bndN m T low - low) low s t
theorem cmpN_step {m : Nat} {T : List Nat} {low s t : Nat} (h2 : 2 ≤ m) (hT : T ≠ [] → low ≠ 0) (hl : low < bndN m T low) : cmpN m T low s t = (blkN m T low s t).map (low :: ·) ++ cmpN m T (low + 1) s t := by
  unfold cmpN
  by_cases c : T = [] ∧ low = 0
  · obtain ⟨rfl, rfl⟩ := c
    rw [if_pos ⟨rfl, rfl⟩, if_neg (by simp)]
    rfl
  · have h0 : low ≠ 0 := by
      by_cases e : T = []
      · exact fun z => c ⟨e, z⟩
      · exact hT e
    have eb : bndN m T (low + 1) = bndN m T low := by
      unfold bndN
      simp [h0]
    rw [if_neg c, if_neg (by simp), eb]
    obtain ⟨d, hd⟩ : ∃ d, bndN m T low - low = d + 1 := ⟨bndN m T low - low - 1, by omega⟩
    rw [hd, show bndN m T low - (low + 1) = d by omega]
    unfold blkN
    rw [show bndN m T low - (low + 1) = d by omega]
    rfl
theorem cmpN_nil {m : Nat} {T : List Nat} {low s t : Nat} (h2 : 2 ≤ m) (hl : bndN m T low ≤ low) : cmpN m T low s t = [] := by
  unfold cmpN
  rw [if_neg, show bndN m T low - low = 0 by omega]
  · rfl
  · rintro ⟨rfl, rfl⟩
    unfold bndN at hl
    rw [if_pos (Or.inl rfl)] at hl
    omega
theorem blkN_cmp {m : Nat} {T : List Nat} {x s t : Nat} (hT : T ≠ [] → x ≠ 0) : blkN m T x s t = eN (1 - s) ((t + x) % 2) ++ cmpN m (T ++ [x]) (x + 1) (1 - s) ((t + x) % 2) := by
  unfold blkN cmpN
  rw [if_neg (by simp)]
  have eb : bndN m (T ++ [x]) (x + 1) = bndN m T x := by
    unfold bndN
    cases T with
    | nil => simp
    | cons a l =>
      have := hT (by simp)
      simp [this]
  rw [eb]
/-- all odd sets, ascending -/
def setsE (m : Nat) : List (List Nat) := eN (m % 2) 0 ++ cmpN m [] 0 (m % 2) 0
/-- how many begin so -/
def begN (m : Nat) (T : List Nat) (x s t : Nat) : Nat := if x < bndN m T x then cntN (bndN m T x - (x + 1)) (x + 1) (1 - s) ((t + x) % 2) else 0
theorem begN_len {m : Nat} {T : List Nat} {x s t : Nat} (h : x < bndN m T x) (hs : s < 2) : begN m T x s t = (blkN m T x s t).length := by
  unfold begN blkN
  rw [if_pos h, neL_len _ _ (by omega) (Nat.mod_lt _ (by omega))]
theorem setsE_len {m : Nat} (h2 : 2 ≤ m) : (setsE m).length = if m < 4 then m - 1 else 3 * 2 ^ (m - 4) := by
  have hm : m % 2 < 2 := Nat.mod_lt _ (by omega)
  unfold setsE cmpN
  rw [if_pos ⟨rfl, rfl⟩, List.length_append, List.length_append, List.length_map]
  have h1 := begN_len (m := m) (T := []) (x := 0) (s := m % 2) (t := 0) (by unfold bndN; rw [if_pos (Or.inl rfl)]; omega) hm
  have h3 := neL_len (m - 1) 1 hm (show 0 < 2 by omega)
  rw [List.length_append] at h3
  rw [← h1, show (eN (m % 2) 0).length + (begN m [] 0 (m % 2) 0 + (neL (m - 1) 1 (m % 2) 0).length) = begN m [] 0 (m % 2) 0 + ((eN (m % 2) 0).length + (neL (m - 1) 1 (m % 2) 0).length) by omega, h3]
  unfold begN bndN
  rw [if_pos (Or.inl rfl), if_pos (by omega)]
  by_cases h4 : m < 4
  · have : m = 2 ∨ m = 3 := by omega
    rcases this with rfl | rfl <;> rfl
  · rw [if_neg h4]
    unfold cntN oddN lotN
    rw [if_neg (by omega), if_neg (by omega), if_neg (by omega), if_neg (by omega), ← Nat.pow_add, ← Nat.pow_add]
    rw [show (0 + 1 + (m - 1 - (0 + 1))) / 2 - (0 + 1) / 2 - 1 + (m - 1 - (0 + 1) - ((0 + 1 + (m - 1 - (0 + 1))) / 2 - (0 + 1) / 2) - 1) = m - 4 by omega]
    rw [show (1 + (m - 1)) / 2 - 1 / 2 - 1 + (m - 1 - ((1 + (m - 1)) / 2 - 1 / 2) - 1) = m - 4 + 1 by omega, Nat.pow_succ]
    omega
end Dt

namespace Dt
open PySem PySem.Spec
/-! ### all odd sets in order are just the odd sets, in order -/
theorem mem_eN {s t : Nat} {x : List Nat} : x ∈ eN s t ↔ x = [] ∧ s = 0 ∧ t = 0 := by
  unfold eN
  split
  · rename_i h
    simp [h]
  · rename_i h
    simp only [List.not_mem_nil, false_iff]
    exact fun z => h z.2
theorem mem_neL : ∀ (d lo : Nat) {s t : Nat} {x : List Nat}, s < 2 → t < 2 → (x ∈ neL d lo s t ↔ x ≠ [] ∧ x.Pairwise (· < ·) ∧ (∀ y ∈ x, lo ≤ y ∧ y < lo + d) ∧ x.length % 2 = s ∧ (x.sum + t) % 2 = 0)
  | 0, lo, s, t, x, hs, ht => by
    refine ⟨(fun h => nomatch h), fun ⟨h, _, hb, _⟩ => ?_⟩
    cases x with
    | nil => exact absurd rfl h
    | cons a l => have := hb a (List.mem_cons_self ..); omega
  | d + 1, lo, s, t, x, hs, ht => by
    have e : neL (d + 1) lo s t = (eN (1 - s) ((t + lo) % 2) ++ neL d (lo + 1) (1 - s) ((t + lo) % 2)).map (lo :: ·) ++ neL d (lo + 1) s t := rfl
    rw [e, List.mem_append, mem_neL d (lo + 1) hs ht, List.mem_map]
    have ih := fun r => mem_neL d (lo + 1) (x := r) (show 1 - s < 2 by omega) (Nat.mod_lt (t + lo) (show 0 < 2 by omega))
    constructor
    · rintro (⟨r, hr, rfl⟩ | ⟨h1, h2, h3, h4⟩)
      · rw [List.mem_append, mem_eN, ih] at hr
        have key : r.Pairwise (· < ·) ∧ (∀ y ∈ r, lo + 1 ≤ y ∧ y < lo + 1 + d) ∧ r.length % 2 = 1 - s ∧ (r.sum + (t + lo) % 2) % 2 = 0 := by
          rcases hr with ⟨rfl, h1, h2⟩ | ⟨_, h⟩
          · exact ⟨.nil, (fun y hy => nomatch hy), by simp; omega, by simp [h2]⟩
          · exact h
        obtain ⟨k1, k2, k3, k4⟩ := key
        refine ⟨by simp, List.pairwise_cons.mpr ⟨fun y hy => by have := k2 y hy; omega, k1⟩, fun y hy => ?_, by rw [List.length_cons]; omega, by rw [List.sum_cons]; omega⟩
        rcases List.mem_cons.mp hy with rfl | hy
        · omega
        · have := k2 y hy; omega
      · exact ⟨h1, h2, fun y hy => by have := h3 y hy; omega, h4⟩
    · rintro ⟨h1, h2, h3, h4, h5⟩
      cases x with
      | nil => exact absurd rfl h1
      | cons a r =>
        have ha := h3 a (List.mem_cons_self ..)
        obtain ⟨p1, p2⟩ := List.pairwise_cons.mp h2
        rw [List.length_cons] at h4
        rw [List.sum_cons] at h5
        by_cases c : a = lo
        · subst c
          refine .inl ⟨r, ?_, rfl⟩
          rw [List.mem_append, mem_eN, ih]
          by_cases z : r = []
          · subst z
            simp at h4 h5
            exact .inl ⟨rfl, by omega, by omega⟩
          · exact .inr ⟨z, p2, fun y hy => by have := p1 y hy; have := h3 y (List.mem_cons_of_mem _ hy); omega, by omega, by omega⟩
        · refine .inr ⟨h1, h2, fun y hy => ?_, by rw [List.length_cons]; exact h4, by rw [List.sum_cons]; exact h5⟩
          have hy2 := h3 y hy
          rcases List.mem_cons.mp hy with rfl | hy
          · omega
          · have := p1 y hy; omega
theorem cast_cons (a : Nat) (l : List Nat) : cast (a :: l) = (a : Int) :: cast l := rfl
theorem ltl_nil {a : List Nat} (h : a ≠ []) : ltl (cast []) (cast a) = true := by
  cases a with
  | nil => exact absurd rfl h
  | cons x l => rfl
theorem ltl_same (lo : Nat) (a b : List Nat) : ltl (cast (lo :: a)) (cast (lo :: b)) = ltl (cast a) (cast b) := by
  rw [cast_cons, cast_cons]
  show (if (lo : Int) = lo then _ else _) = _
  rw [if_pos rfl]
theorem ltl_less {x y : Nat} (h : x < y) (a b : List Nat) : ltl (cast (x :: a)) (cast (y :: b)) = true := by
  rw [cast_cons, cast_cons]
  show (if (x : Int) = y then _ else decide ((x : Int) < y)) = _
  rw [if_neg (by omega)]
  exact decide_eq_true (by omega)
abbrev LtN (a b : List Nat) : Prop := ltl (cast a) (cast b) = true
theorem neL_head (d lo : Nat) {s t : Nat} {x : List Nat} (hs : s < 2) (ht : t < 2) (h : x ∈ neL d lo s t) : ∃ a r, x = a :: r ∧ lo ≤ a := by
  obtain ⟨h1, _, h3, _⟩ := (mem_neL d lo hs ht).mp h
  cases x with
  | nil => exact absurd rfl h1
  | cons a r => exact ⟨a, r, rfl, (h3 a (List.mem_cons_self ..)).1⟩
theorem eN_ord (s t : Nat) : (eN s t).Pairwise LtN := by
  unfold eN
  split
  · exact List.pairwise_singleton ..
  · exact .nil
theorem pre_ord {s t : Nat} {l : List (List Nat)} (h : l.Pairwise LtN) (hn : ∀ x ∈ l, x ≠ []) : (eN s t ++ l).Pairwise LtN :=
  List.pairwise_append.mpr ⟨eN_ord s t, h, fun a ha b hb => by rw [(mem_eN.mp ha).1]; exact ltl_nil (hn b hb)⟩
theorem map_ord {lo : Nat} {l : List (List Nat)} (h : l.Pairwise LtN) : (l.map (lo :: ·)).Pairwise LtN := by
  rw [List.pairwise_map]
  exact h.imp fun {a b} h => by rw [show LtN (lo :: a) (lo :: b) = LtN a b from by unfold LtN; rw [ltl_same]]; exact h
theorem neL_ord : ∀ (d lo : Nat) {s t : Nat}, s < 2 → t < 2 → (neL d lo s t).Pairwise LtN
  | 0, _, _, _, _, _ => .nil
  | d + 1, lo, s, t, hs, ht => by
    have h1 : 1 - s < 2 := by omega
    have h2 : (t + lo) % 2 < 2 := Nat.mod_lt _ (by omega)
    refine List.pairwise_append.mpr ⟨map_ord (pre_ord (neL_ord d (lo + 1) h1 h2) fun x hx => ((mem_neL _ _ h1 h2).mp hx).1), neL_ord d (lo + 1) hs ht, fun a ha b hb => ?_⟩
    obtain ⟨r, _, rfl⟩ := List.mem_map.mp ha
    obtain ⟨y, r2, rfl, hy⟩ := neL_head d (lo + 1) hs ht hb
    exact ltl_less (by omega) _ _
theorem setsE_ord {m : Nat} (h2 : 2 ≤ m) : (setsE m).Pairwise LtN := by
  have hm : m % 2 < 2 := Nat.mod_lt _ (by omega)
  have h1 : 1 - m % 2 < 2 := by omega
  have h0 : (0 + 0) % 2 < 2 := by omega
  unfold setsE cmpN
  rw [if_pos ⟨rfl, rfl⟩]
  refine pre_ord (List.pairwise_append.mpr ⟨map_ord ?_, neL_ord _ _ hm (by omega), fun a ha b hb => ?_⟩) fun x hx => ?_
  · unfold blkN
    exact pre_ord (neL_ord _ _ h1 h0) fun x hx => ((mem_neL _ _ h1 h0).mp hx).1
  · obtain ⟨r, _, rfl⟩ := List.mem_map.mp ha
    obtain ⟨y, r2, rfl, hy⟩ := neL_head _ _ hm (by omega) hb
    exact ltl_less (by omega) _ _
  · rcases List.mem_append.mp hx with hx | hx
    · obtain ⟨r, _, rfl⟩ := List.mem_map.mp hx
      simp
    · exact ((mem_neL _ _ hm (by omega)).mp hx).1
/-- an odd set, in numbers from 0 on -/
theorem mem_setsE {m : Nat} (h2 : 2 ≤ m) {x : List Nat} : x ∈ setsE m ↔ x.Pairwise (· < ·) ∧ (∀ y ∈ x, y < m) ∧ x.length % 2 = m % 2 ∧ x.sum % 2 = 0 ∧ ¬ (0 ∈ x ∧ m - 1 ∈ x) := by
  have hm : m % 2 < 2 := Nat.mod_lt _ (by omega)
  have h1 : 1 - m % 2 < 2 := by omega
  unfold setsE cmpN
  rw [if_pos ⟨rfl, rfl⟩, List.mem_append, List.mem_append, List.mem_map, mem_eN, mem_neL (m - 1) 1 hm (by omega)]
  have hb : ∀ r, r ∈ blkN m [] 0 (m % 2) 0 ↔ (r = [] ∧ 1 - m % 2 = 0) ∨ (r ≠ [] ∧ r.Pairwise (· < ·) ∧ (∀ y ∈ r, 1 ≤ y ∧ y < m - 1) ∧ r.length % 2 = 1 - m % 2 ∧ r.sum % 2 = 0) := by
    intro r
    unfold blkN bndN
    rw [if_pos (Or.inl rfl), List.mem_append, mem_eN, mem_neL _ _ h1 (by omega), show 0 + 1 + (m - 1 - (0 + 1)) = m - 1 by omega]
    simp
  constructor
  · rintro (⟨rfl, h, _⟩ | ⟨r, hr, rfl⟩ | ⟨n1, n2, n3, n4, n5⟩)
    · exact ⟨.nil, (fun y hy => nomatch hy), by simp; omega, rfl, (fun z => nomatch z.1)⟩
    · have key : r.Pairwise (· < ·) ∧ (∀ y ∈ r, 1 ≤ y ∧ y < m - 1) ∧ r.length % 2 = 1 - m % 2 ∧ r.sum % 2 = 0 := by
        rcases (hb r).mp hr with ⟨rfl, h⟩ | ⟨_, h⟩
        · exact ⟨.nil, (fun y hy => nomatch hy), by simp; omega, rfl⟩
        · exact h
      obtain ⟨k1, k2, k3, k4⟩ := key
      refine ⟨List.pairwise_cons.mpr ⟨fun y hy => by have := k2 y hy; omega, k1⟩, fun y hy => ?_, by rw [List.length_cons]; omega, by rw [List.sum_cons]; omega, fun ⟨_, z⟩ => ?_⟩
      · rcases List.mem_cons.mp hy with rfl | hy
        · omega
        · have := k2 y hy; omega
      · rcases List.mem_cons.mp z with z | z
        · omega
        · have := k2 _ z; omega
    · exact ⟨n2, fun y hy => by have := n3 y hy; omega, n4, by omega, fun z => by have := n3 0 z.1; omega⟩
  · rintro ⟨p1, p2, p3, p4, p5⟩
    cases x with
    | nil => exact .inl ⟨rfl, by simpa using p3.symm, rfl⟩
    | cons a r =>
      obtain ⟨q1, q2⟩ := List.pairwise_cons.mp p1
      rw [List.length_cons] at p3
      rw [List.sum_cons] at p4
      by_cases c : a = 0
      · subst c
        refine .inr (.inl ⟨r, (hb r).mpr ?_, rfl⟩)
        by_cases z : r = []
        · subst z
          simp at p3
          exact .inl ⟨rfl, by omega⟩
        · refine .inr ⟨z, q2, fun y hy => ?_, by omega, by omega⟩
          have h1 := q1 y hy
          have h2 := p2 y (List.mem_cons_of_mem _ hy)
          have h3 : y ≠ m - 1 := fun e => p5 ⟨List.mem_cons_self .., List.mem_cons_of_mem _ (by rw [← e]; exact hy)⟩
          omega
      · refine .inr (.inr ⟨by simp, p1, fun y hy => ?_, by rw [List.length_cons]; exact p3, by rw [List.sum_cons]; omega⟩)
        have := p2 y hy
        rcases List.mem_cons.mp hy with rfl | hy
        · omega
        · have := q1 y hy; omega
theorem cast_mem {l : List Nat} {y : Nat} : (y : Int) ∈ cast l ↔ y ∈ l := by
  unfold cast
  rw [List.mem_map]
  exact ⟨fun ⟨z, h, e⟩ => by rw [show y = z by omega]; exact h, fun h => ⟨y, h, rfl⟩⟩
theorem sub_range {m : Nat} {C : List Int} (h : C.Pairwise (· < ·)) (hb : ∀ z ∈ C, 0 ≤ z ∧ z < m) : C.Sublist (rangeI 0 m) := by
  have lt0 : ∀ {l : List Int}, l.Pairwise (· < ·) → l.Pairwise fun a b => lti b a = false := fun h => h.imp fun h => by unfold lti; simp; omega
  have hr := rangeI_lt 0 m
  have nd : ∀ {l : List Int}, l.Pairwise (· < ·) → l.Nodup := fun h => h.imp fun h => by omega
  have e1 : C = srt lti C := srt_eq tot_lti (List.Perm.refl _) (lt0 h)
  have e2 : (rangeI 0 m).filter (fun z => decide (z ∈ C)) = srt lti C := srt_eq tot_lti ((List.perm_ext_iff_of_nodup ((nd hr).sublist List.filter_sublist) (nd h)).mpr fun z => by
    rw [List.mem_filter, mem_rangeI, decide_eq_true_eq]
    exact ⟨fun q => q.2, fun q => ⟨by have := hb z q; omega, q⟩⟩) (lt0 (hr.sublist List.filter_sublist))
  rw [e1, ← e2]
  exact List.filter_sublist
/-- MAIN: an odd set stands among them, and nothing else -/
theorem setsE_odd {m : Nat} (h2 : 2 ≤ m) {C : List Int} : OddS m C ↔ ∃ l ∈ setsE m, C = cast l := by
  constructor
  · intro h
    have hlt := (rangeI_lt 0 m).sublist h.sub
    have hb : ∀ z ∈ C, 0 ≤ z ∧ z < m := fun z hz => by have := mem_rangeI.mp (h.sub.subset hz); omega
    have e : C = cast (C.map Int.toNat) := by
      unfold cast
      rw [List.map_map]
      refine (List.map_id C).symm.trans (List.map_congr_left fun z hz => ?_)
      have := hb z hz
      show z = ((z.toNat : Nat) : Int)
      omega
    obtain ⟨l, hl⟩ : ∃ l, l = C.map Int.toNat := ⟨_, rfl⟩
    rw [← hl] at e
    subst e
    refine ⟨l, (mem_setsE h2).mpr ⟨?_, fun y hy => ?_, ?_, ?_, fun z => h.ends ⟨cast_mem.mpr z.1, ?_⟩⟩, rfl⟩
    · unfold cast at hlt
      rw [List.pairwise_map] at hlt
      exact hlt.imp fun h => by omega
    · have := hb y (cast_mem.mpr hy); omega
    · have := h.par
      unfold cast at this
      rw [List.length_map] at this
      omega
    · have := h.even
      rw [cast_sum, show sumN l = l.sum from ?_] at this
      · omega
      · clear hl hlt hb h this
        induction l with
        | nil => rfl
        | cons a l ih => rw [List.sum_cons, ← ih]; rfl
    · have := cast_mem.mpr z.2
      rw [show ((m - 1 : Nat) : Int) = (m : Int) - 1 by omega] at this
      exact this
  · rintro ⟨l, hl, rfl⟩
    obtain ⟨p1, p2, p3, p4, p5⟩ := (mem_setsE h2).mp hl
    have hlt : (cast l).Pairwise (· < ·) := by
      unfold cast
      rw [List.pairwise_map]
      exact p1.imp fun h => by omega
    have hb : ∀ z ∈ cast l, 0 ≤ z ∧ z < m := fun z hz => by
      unfold cast at hz
      obtain ⟨y, hy, rfl⟩ := List.mem_map.mp hz
      have := p2 y hy
      omega
    refine ⟨sub_range hlt hb, ?_, ?_, fun z => p5 ⟨cast_mem.mp z.1, cast_mem.mp ?_⟩⟩
    · unfold cast
      rw [List.length_map]
      omega
    · rw [cast_sum, show sumN l = l.sum from ?_]
      · omega
      · clear hl hlt hb p1 p2 p3 p4 p5
        induction l with
        | nil => rfl
        | cons a l ih => rw [List.sum_cons, ← ih]; rfl
    · rw [show ((m - 1 : Nat) : Int) = (m : Int) - 1 by omega]
      exact z.2
end Dt

namespace Dt
open PySem PySem.Spec
/-! ### an object that takes an odd set -/
def powL (n : Nat) : List Int := (List.range (n + 1)).map fun i => ((2 ^ i : Nat) : Int)
theorem powL_len (n : Nat) : (powL n).length = n + 1 := by unfold powL; rw [List.length_map, List.length_range]
theorem powL_snoc (n : Nat) : powL (n + 1) = powL n ++ [((2 ^ (n + 1) : Nat) : Int)] := by
  unfold powL
  rw [List.range_succ, List.map_append]
  rfl
theorem powL_at {n i : Nat} (h : i ≤ n) : L2.atI (pis (powL n)) (i : Int) = some (.int ((2 ^ i : Nat) : Int)) := by
  refine atI_nat (by omega) ?_
  rw [show ((i : Int)).toNat = i by omega]
  unfold pis powL
  rw [List.getElem?_map, List.getElem?_map, List.getElem?_range (by omega)]
  rfl
theorem powL_last (n : Nat) : L2.atI (pis (powL n)) (-1) = some (.int ((2 ^ n : Nat) : Int)) := by
  unfold L2.atI
  have hl : (pis (powL n)).length = n + 1 := by rw [List.length_map, powL_len]
  have e : (pis (powL n))[n]? = some (.int ((2 ^ n : Nat) : Int)) := by
    unfold pis powL
    rw [List.getElem?_map, List.getElem?_map, List.getElem?_range (by omega)]
    rfl
  rw [hl, show L2.ixN (n + 1) (-1) = some n by
    unfold L2.ixN
    rw [if_neg (by omega), if_pos (by omega)]
    exact congrArg some (by omega)]
  exact e
def takO (C : Addr) (m : Nat) (T : List Nat) (s t : Nat) : OV := .ins C [("many", .fr (.int m)), ("powers", .fr (.list (pis (powL m)))), ("taken", .lst (pis (cast T))), ("size", .fr (.int s)), ("total", .fr (.int t))]
end Dt

namespace Dt
open PySem PySem.Spec
/-! ### how many odd sets stand ahead of one -/
theorem cmpN_head {m : Nat} {T : List Nat} {low s t : Nat} {X : List Nat} (h2 : 2 ≤ m) (hs : s < 2) (ht : t < 2) (h : X ∈ cmpN m T low s t) : ∃ a r, X = a :: r ∧ low ≤ a := by
  unfold cmpN at h
  split at h
  · rename_i c
    rcases List.mem_append.mp h with h | h
    · obtain ⟨r, _, rfl⟩ := List.mem_map.mp h
      exact ⟨0, r, rfl, by omega⟩
    · obtain ⟨a, r, e, ha⟩ := neL_head _ _ hs ht h
      exact ⟨a, r, e, by omega⟩
  · exact neL_head _ _ hs ht h
theorem pre_at {s t r : Nat} {L : List (List Nat)} {X : List Nat} (hX : X ≠ []) (h : (eN s t ++ L)[r]? = some X) : ∃ r1 : Nat, (r : Int) = (if decide (s = 0 ∧ t = 0) = true then 1 else 0) + (r1 : Int) ∧ L[r1]? = some X := by
  unfold eN at h
  by_cases z : s = 0 ∧ t = 0
  · rw [if_pos z] at h
    rw [if_pos (decide_eq_true z)]
    cases r with
    | zero => exact absurd (Option.some.inj h).symm hX
    | succ r => exact ⟨r, by omega, h⟩
  · rw [if_neg z] at h
    rw [if_neg (by simpa using z)]
    exact ⟨r, by omega, h⟩
theorem end_at {m : Nat} {T : List Nat} {low s t r : Nat} (h2 : 2 ≤ m) (hs : s < 2) (ht : t < 2) (h : (eN s t ++ cmpN m T low s t)[r]? = some []) : r = 0 := by
  unfold eN at h
  have no : ([] : List Nat) ∉ cmpN m T low s t := fun z => by
    obtain ⟨a, r, e, _⟩ := cmpN_head h2 hs ht z
    cases e
  split at h
  · cases r with
    | zero => rfl
    | succ r => exact absurd (List.mem_of_getElem? (l := cmpN m T low s t) h) no
  · exact absurd (List.mem_of_getElem? (l := cmpN m T low s t) h) no
/-- the ones ahead, number by number -/
theorem beg_sum {m : Nat} {T : List Nat} {s t x : Nat} {X : List Nat} (h2 : 2 ≤ m) (hs : s < 2) (ht : t < 2) : ∀ (d low r : Nat), low + d = x → (T ≠ [] → low ≠ 0) → (cmpN m T low s t)[r]? = some (x :: X) →
    ∃ r2, r = (((List.range d).map fun i => begN m T (low + i) s t).sum) + r2 ∧ (blkN m T x s t)[r2]? = some X ∧ x < bndN m T x
  | 0, low, r, e, hT, h => by
    have e : low = x := e
    subst e
    have hlt : low < bndN m T low := by
      rcases Nat.lt_or_ge low (bndN m T low) with q | q
      · exact q
      · rw [cmpN_nil h2 q] at h; cases h
    rw [cmpN_step h2 hT hlt] at h
    rcases Nat.lt_or_ge r (blkN m T low s t).length with q | q
    · rw [List.getElem?_append_left (by rw [List.length_map]; exact q), List.getElem?_map] at h
      refine ⟨r, by simp, ?_, hlt⟩
      cases e : (blkN m T low s t)[r]? with
      | none => rw [e] at h; cases h
      | some z =>
        rw [e] at h
        have := Option.some.inj h
        rw [(List.cons.inj this).2]
    · rw [List.getElem?_append_right (by rw [List.length_map]; exact q)] at h
      obtain ⟨a, r', e, ha⟩ := cmpN_head h2 hs ht (List.mem_of_getElem? h)
      obtain ⟨rfl, _⟩ := List.cons.inj e
      omega
  | d + 1, low, r, e, hT, h => by
    have hlt : low < bndN m T low := by
      rcases Nat.lt_or_ge low (bndN m T low) with q | q
      · exact q
      · rw [cmpN_nil h2 q] at h; cases h
    have hl := begN_len (t := t) hlt hs
    rw [cmpN_step h2 hT hlt] at h
    rcases Nat.lt_or_ge r (blkN m T low s t).length with q | q
    · rw [List.getElem?_append_left (by rw [List.length_map]; exact q), List.getElem?_map] at h
      cases e2 : (blkN m T low s t)[r]? with
      | none => rw [e2] at h; cases h
      | some z =>
        rw [e2] at h
        have := (List.cons.inj (Option.some.inj h)).1
        omega
    · rw [List.getElem?_append_right (by rw [List.length_map]; exact q), List.length_map] at h
      obtain ⟨r2, q1, q2, q3⟩ := beg_sum h2 hs ht d (low + 1) _ (by omega) (fun _ => by omega) h
      refine ⟨r2, ?_, q2, q3⟩
      rw [List.range_succ_eq_map, List.map_cons, List.sum_cons, List.map_map]
      have e3 : ((List.range d).map ((fun i => begN m T (low + i) s t) ∘ Nat.succ)) = (List.range d).map fun i => begN m T (low + 1 + i) s t := List.map_congr_left fun i _ => by
        show begN m T (low + (i + 1)) s t = _
        rw [show low + (i + 1) = low + 1 + i by omega]
      rw [e3, Nat.add_zero, hl]
      omega
theorem OddS.none {n : Nat} {C : List Int} (h : OddS n C) : setE n (tI C) = .none := by
  have hlt := (rangeI_lt 0 n).sublist h.sub
  have hb : ∀ z ∈ C, 0 ≤ z ∧ z < n := fun z hz => by have := mem_rangeI.mp (h.sub.subset hz); omega
  rw [show tI C = .tuple (C.map .int) from rfl, setE_yes (ints_risD (fun d hd => by have := hb d hd; omega) hlt)]
  unfold setWrong
  rw [if_neg (by have := h.par; omega), if_neg (by have := h.even; omega), if_neg]
  rintro ⟨e1, e2⟩
  refine h.ends ⟨?_, ?_⟩
  · cases C with
    | nil => cases e1
    | cons a l => rw [Option.some.inj e1]; exact List.mem_cons_self ..
  · exact List.mem_of_getLast? e2
end Dt

namespace Dt
open PySem PySem.Spec PyProof.Rows L2
/-! ### lists of tuples of ints: in, not in, equal -/
/-! ### the odd sets of all webs are all odd sets -/
end Dt

namespace Dt
open PySem PySem.Spec PyProof.Rows L2
/-! ### products of wide ints -/
def CMulW (i j : Int) : Prop := i.natAbs.log2 < 2000 ∧ j.natAbs.log2 < 2000
theorem mulW_fine {i j : Int} (h : CMulW i j) : IntMulOk i j := by
  have hb : ∀ z : Int, z.natAbs.log2 < 2000 → Builtin.Int.intBits z ≤ 2000 := fun z hz => by
    unfold Builtin.Int.intBits
    split
    · omega
    · omega
  have h1 := hb i h.1
  have h2 := hb j h.2
  unfold IntMulOk
  rw [show Builtin.Int.intTooBig (Builtin.Int.intBits i + Builtin.Int.intBits j) = false from ?_, Bool.and_false]
  · exact Bool.false_ne_true
  · unfold Builtin.Int.intTooBig
    refine decide_eq_false ?_
    have : (4000 : Int) < (bitsLine : Int) := by
      have : (4000 : Nat) < bitsLine := by decide
      exact_mod_cast this
    omega
theorem op_mulD2 {X : Cx} : OpR X (binaryOp .Mult) (rI CMulW fun i j => .int (i * j)) := opI fun _ _ _ _ _ _ _ hc q => mul_int q (mulW_fine hc)
def cMulW (i j : Int) : Bool := decide (i.natAbs.log2 < 2000) && decide (j.natAbs.log2 < 2000)
theorem mulW_ok (K : Fg) : Op2 K (rI CMulW fun i j => .int (i * j)) (lift2 (intO cMulW fun i j => i * j)) := opC_ok K (fun i j h => by
  have := Bool.and_eq_true_iff.mp h
  exact ⟨of_decide_eq_true this.1, of_decide_eq_true this.2⟩) intO_inv
theorem mulW_e {a b : Nat} (ha : a < 2 ^ 2000) (hb : b < 2 ^ 2000) : cMulW a b = true := by
  have key : ∀ n : Nat, n < 2 ^ 2000 → (n : Int).natAbs.log2 < 2000 := fun n hn => by
    rw [Int.natAbs_natCast]
    by_cases h0 : n = 0
    · subst h0
      exact Nat.lt_of_le_of_lt (Nat.log2_le_self 0) (by decide)
    · exact (Nat.log2_lt h0).mpr hn
  unfold cMulW
  rw [decide_eq_true (key a ha), decide_eq_true (key b hb)]
  rfl
/-- what no fault is found in is an odd set -/
theorem setE_is {m : Nat} {v : PyData} (h : setE m v = .none) : ∃ C : List Int, v = tI C ∧ OddS m C := by
  cases v with
  | tuple ds =>
    cases hr : risD (m : Int) (-1) ds with
    | false => rw [setE_no hr] at h; cases h
    | true =>
      obtain ⟨ns, rfl, hb, hp⟩ := risD_ints hr
      exact ⟨ns, rfl, OddS.of (sub_range hp fun z hz => by have := hb z hz; omega) h⟩
  | _ => cases h
end Dt

namespace Dt
open PySem PySem.Spec PyProof.Rows L2
/-! ### t >= u of two tuples of ints -/
def rGeT (K : PySem.W.Frag) : R2 := fun x y H Q => ∃ (a b : Addr) (ns ms : List Int), x = .ref a ∧ y = .ref b ∧ SqT K H a (ns.map V.int) ∧ SqT K H b (ms.map V.int) ∧
  Q (.bl (Ob.lexAt (fun j => decide (ns.getD j 0 = ms.getD j 0)) (fun j => decide (ms.getD j 0 ≤ ns.getD j 0)) (decide (ns.length ≥ ms.length)) 0 (min ns.length ms.length))) H
theorem op_geT {X : Cx} (hu : X.A.units < cLine) : OpR X (compareOp .GtE) (rGeT X.K) := by
  intro pins s σ H x y v u Q I rx ry h
  obtain ⟨a, b, ns, ms, rfl, rfl, ha, hb, q⟩ := h
  cases rx
  cases ry
  obtain ⟨its, r1, p1, _⟩ := I.tuple ha
  obtain ⟨its2, r2, p2, _⟩ := I.tuple hb
  have i1 : IntsAre its ns := Vals.ints r1
  have i2 : IntsAre its2 ms := Vals.ints r2
  have e1 : its.toArray.size = ns.length := by rw [List.size_toArray]; exact i1.length
  have e2 : its2.toArray.size = ms.length := by rw [List.size_toArray]; exact i2.length
  have at1 : ∀ j (h1 : j < its.toArray.size), ∃ t, its.toArray[j] = .int (ns.getD j 0) t := fun j h1 => PyProof.Rows.IntsAre.int_at i1 _ _ (by simp at h1; simp [h1])
  have at2 : ∀ j (h1 : j < its2.toArray.size), ∃ t, its2.toArray[j] = .int (ms.getD j 0) t := fun j h1 => PyProof.Rows.IntsAre.int_at i2 _ _ (by simp at h1; simp [h1])
  have R := Ob.RcOp.tuples_ge (A := X.A) (s := s) (e := fun j => decide (ns.getD j 0 = ms.getD j 0)) (r := fun j => decide (ms.getD j 0 ≤ ns.getD j 0)) p1 p2 hu (fun j h1 h2 => by
    obtain ⟨t, et⟩ := at1 j h1
    obtain ⟨t', et'⟩ := at2 j h2
    rw [et, et']
    have z : (ns.getD j 0 == ms.getD j 0) = decide (ns.getD j 0 = ms.getD j 0) := by
      by_cases q : ns.getD j 0 = ms.getD j 0
      · rw [decide_eq_true q]; exact beq_iff_eq.mpr q
      · rw [decide_eq_false q]; exact beq_eq_false_iff_ne.mpr q
    rw [← z]
    exact SeqAt.EqAt.int_int _ _ _ _) (fun j h1 h2 _ => by
    obtain ⟨t, et⟩ := at1 j h1
    obtain ⟨t', et'⟩ := at2 j h2
    rw [et, et']
    exact Ob.RcOp.ge_int _ _ _ _)
  rw [e1, e2] at R
  have z : wpAny (model X.prog X.w) X.A (compareOp .GtE (.ref a) (.ref b)) (EP X pins σ Q) X.xe s := R X.prog X.w X.xe (EP X pins σ Q) ⟨.bl _, H, I, rfl, q⟩
  exact z
def gexB (ns ms : List Int) : Bool := Ob.lexAt (fun j => decide (ns.getD j 0 = ms.getD j 0)) (fun j => decide (ms.getD j 0 ≤ ns.getD j 0)) (decide (ns.length ≥ ms.length)) 0 (min ns.length ms.length)
def geTO : OV → OV → Option Res
  | .fr (.tuple a), .fr (.tuple b) => (intsOf a).bind fun ns => (intsOf b).map fun ms => .cl (.bool (gexB ns ms))
  | _, _ => none
theorem geT_ok (K : Fg) : Op2 K (rGeT K) (lift2 geTO) := by
  intro pv F H σ ρ fps x y r1 r2 res f1 f2 Q S R1 R2 d e k
  obtain ⟨a, b, e1, e2, e⟩ := lift2_inv e
  unfold geTO at e
  split at e
  · rename_i as bs
    cases h1 : intsOf as with
    | none => rw [h1] at e; cases e
    | some ns =>
      cases h2 : intsOf bs with
      | none => rw [h1, h2] at e; cases e
      | some ms =>
        rw [h1, h2] at e
        cases e
        obtain ⟨p1, vs, rfl, t1, s1⟩ := (R1.frD S e1).tupI
        obtain ⟨p2, ws, rfl, t2, s2⟩ := (R2.frD S e2).tupI
        have q1 := intsOf_rep s1 h1
        have q2 := intsOf_rep s2 h2
        subst q1 q2
        exact ⟨p1, p2, ns, ms, rfl, rfl, Same.sqT S.le t1, Same.sqT S.le t2, k _ F H noA (Grow.refl S.le) ⟨.bool _, fun _ z => z⟩⟩
  · cases e
theorem lexAt_shift (e r : Nat → Bool) (z : Bool) : ∀ k i, Ob.lexAt e r z (i + 1) k = Ob.lexAt (fun j => e (j + 1)) (fun j => r (j + 1)) z i k
  | 0, i => rfl
  | k + 1, i => by rw [Ob.lexAt_succ, Ob.lexAt_succ, lexAt_shift e r z k (i + 1)]
theorem gexB_ltl : ∀ ns ms : List Int, gexB ns ms = !ltl ns ms
  | [], [] => rfl
  | [], _ :: _ => rfl
  | _ :: _, [] => rfl
  | a :: l, b :: r => by
    have ih := gexB_ltl l r
    unfold gexB at ih ⊢
    rw [List.length_cons, List.length_cons, show min (l.length + 1) (r.length + 1) = min l.length r.length + 1 by omega, Ob.lexAt_succ, lexAt_shift]
    have e0 : ((a :: l).getD 0 0 = (b :: r).getD 0 0) = (a = b) := rfl
    have e1 : ((b :: r).getD 0 0 ≤ (a :: l).getD 0 0) = (b ≤ a) := rfl
    rw [show decide (l.length + 1 ≥ r.length + 1) = decide (l.length ≥ r.length) from decide_eq_decide.mpr (by omega)]
    have ih2 : Ob.lexAt (fun j => decide ((a :: l).getD (j + 1) 0 = (b :: r).getD (j + 1) 0)) (fun j => decide ((b :: r).getD (j + 1) 0 ≤ (a :: l).getD (j + 1) 0)) (decide (l.length ≥ r.length)) 0 (min l.length r.length) = !ltl l r := ih
    rw [ih2]
    show (if decide (a = b) = true then !ltl l r else decide (b ≤ a)) = !(if a = b then ltl l r else decide (a < b))
    by_cases h : a = b
    · rw [if_pos (decide_eq_true h), if_pos h]
    · rw [if_neg (by simpa using h), if_neg h, ← decide_not]
      exact decide_eq_decide.mpr (by omega)
theorem geTO_e (a b : List Int) : geTO (.fr (.tuple (pis a))) (.fr (.tuple (pis b))) = some (.cl (.bool (!ltl a b))) := by
  show ((intsOf (pis a)).bind fun ns => (intsOf (pis b)).map fun ms => Res.cl (.bool (gexB ns ms))) = _
  rw [intsOf_ints, intsOf_ints, ← gexB_ltl]
  rfl
end Dt

namespace Dt
open PySem PySem.Spec
/-! ### the rows of an odd set hang together: tables for four to six people -/
end Dt

namespace Dt
open PySem PySem.Spec
/-! ### all rows of an odd set are met, have all sums; contrary ones -/
/-! contrary rows -/
end Dt

/-! ## the law oddlines_k27_whole_odd_sets_of_many_peop, over the data layer -/
namespace Law
open PySem PySem.Spec PyProof.Rows L2 Dt
local macro_rules | `(tactic| walk_at "dt use") => `(tactic| fail)
local macro_rules | `(tactic| walk_at "dt tl") => `(tactic| repeat (first
  | (with_reducible assumption)
  | (with_reducible exact Tl.none)
  | (with_reducible exact Tl.bool _)
  | (with_reducible exact Tl.edict)
  | (with_reducible exact Tl.ovdct)
  | (with_reducible exact Tl.intS (by omega) (by omega))
  | (with_reducible exact Tl.int (by decide +kernel))
  | (with_reducible exact Tl.num (by omega) (by omega))
  | (with_reducible exact Tl.word _ (by decide +kernel))
  | (with_reducible exact Tld.tl (by assumption))
  | (with_reducible exact Tl.web (by assumption) (by omega))
  | with_reducible apply Tl.tuple
  | with_reducible apply Tl.list
  | with_reducible apply Tl.ovlst
  | with_reducible apply Tl.ovfr
  | with_reducible exact TlA.nil
  | with_reducible apply TlA.cons
  | with_reducible apply TlA.app
  | with_reducible apply TlA.cut
  | with_reducible apply TlA.rev
  | with_reducible apply TlA.rep
  | (with_reducible refine Tl.ln ⟨?_, ?_⟩ ⟨?_, ?_⟩) <;> omega))
local macro_rules | `(tactic| walk_at "dt ln") => `(tactic| repeat (first
  | with_reducible assumption
  | with_reducible exact Lb.nil
  | with_reducible apply Lb.cons
  | with_reducible apply Lb.app
  | with_reducible apply Lb.cut
  | with_reducible apply Lb.rev
  | with_reducible apply Lb.map
  | with_reducible exact Lb.rep
  | with_reducible exact Lb.range
  | with_reducible apply Lb.filter))
local macro_rules | `(tactic| walk_at "dt go") => `(tactic| repeat (first
  | ((with_reducible refine (show gVar _ _ _ from ?_)); refine gVar_i rfl ?_)
  | with_reducible refine gCons_i ?_
  | with_reducible refine Dt.gNil_i ?_
  | with_reducible refine gC_i ?_
  | with_reducible refine gOp_i ?_
  | ((with_reducible refine (show (_ → _) ∧ _ from ?_)); refine And.intro (fun z => by first | exact absurd z Bool.false_ne_true | rfl) ?_)
  | with_reducible refine gTst_i ?_
  | with_reducible refine gSeq_i ?_
  | with_reducible refine gSet_i ?_
  | ((with_reducible refine (show setK _ _ _ _ from ?_)); refine setK_i rfl (Nat.le_of_ble_eq_true rfl) ?_)
  | with_reducible refine gN_i ?_
  | with_reducible refine gFz_i ?_
  | with_reducible refine gRet_i ?_
  | with_reducible refine gCall_i ?_
  | with_reducible refine gIf_i ?_
  | with_reducible refine gRetN_i ?_
  | with_reducible refine gExpr_i ?_
  | with_reducible refine gNext_i ?_
  | with_reducible refine gCont_i ?_
  | with_reducible refine gNot_i ?_
  | with_reducible refine gAnd_i ?_
  | with_reducible refine gOr_i ?_
  | with_reducible refine gNR_i ?_
  | with_reducible refine gTx_i ?_
  | with_reducible refine str_ex ?_
  | with_reducible refine int_ex ?_
  | with_reducible refine gLD_i ?_
  | with_reducible refine gLD4_i ?_
  | with_reducible refine gLS_i ?_
  | with_reducible refine gSSA_i ?_
  | with_reducible refine gDGetF_i ?_
  | ((with_reducible refine (show ok (dAtF _ _) _ from ?_)); first | refine ok_i (dAtF_1 (by decide +kernel)) ?_ | refine ok_i (dAtF_n (by decide +kernel) (dAtF_1 (by decide +kernel))) ?_ | refine ok_i (dAtF_n (by decide +kernel) (dAtF_n (by decide +kernel) (dAtF_1 (by decide +kernel)))) ?_)
  | with_reducible refine gLcR_i ?_
  | ((with_reducible refine (show lcrK _ _ _ _ _ from ?_)); refine lcr_i rfl ?_)
  | ((with_reducible refine (show fnK (intsF minI) _ _ _ _ from ?_)); refine min_i rfl ?_)
  | ((with_reducible refine (show fnK (intsF maxI) _ _ _ _ from ?_)); refine max_i rfl ?_)
  | ((with_reducible refine (show gFrz _ _ _ from ?_)); refine gFrz_i rfl rfl (Nat.le_of_ble_eq_true rfl) ?_)
  | with_reducible refine gKG_i ?_
  | with_reducible refine gRgV1_i ?_
  | with_reducible refine gRgV2_i ?_
  | with_reducible refine gSD_i ?_
  | with_reducible refine gSS_i ?_
  | with_reducible refine gSSP_i ?_
  | with_reducible refine gSortRg_i ?_
  | with_reducible refine gRdQ_s ?_
  | ((with_reducible refine (show sqK _ _ _ from ?_)); refine sq_i rfl ?_)
  | with_reducible refine gIfE_i ?_
  | with_reducible refine gNotV_i ?_
  | with_reducible refine gNeg_i ?_
  | with_reducible refine gCallX_i ?_
  | with_reducible refine gCallXK_i ?_
  | with_reducible refine gRaise0_i ?_
  | with_reducible refine gRaise1_i ?_
  | with_reducible refine one_exc ?_
  | with_reducible refine gTry_i ?_
  | with_reducible refine gTryN_i ?_
  | with_reducible refine gCallK_i ?_
  | with_reducible refine gFor_i ?_
  | with_reducible refine gLc_i ?_
  | with_reducible refine gDGet_i ?_
  | with_reducible refine gAtt_i ?_
  | ((with_reducible refine (show attK _ _ _ _ _ _ from ?_)); refine attK_i rfl ?_)
  | with_reducible refine gMethC_i ?_
  | ((with_reducible refine (show insNo _ _ _ _ ∧ _ from ?_)); refine And.intro ⟨_, rfl, rfl⟩ ?_)
  | with_reducible refine gMake_i ?_
  | ((with_reducible refine (show makeK _ _ _ _ _ _ from ?_)); refine makeK_i rfl rfl ?_)
  | with_reducible refine gASet_i ?_
  | with_reducible refine gATg_i ?_
  | ((with_reducible refine (show (_ ∧ _ < 1000) ∧ _ from ?_)); refine And.intro ⟨rfl, Nat.le_of_ble_eq_true rfl⟩ ?_)
  | with_reducible refine gMeth_i ?_
  | with_reducible refine gDPut_i ?_
  | with_reducible refine gDisp_i ?_
  | with_reducible refine gPairs_nil ?_
  | with_reducible refine gPairs_cons ?_
  | with_reducible refine gRdM_i ?_
  | with_reducible refine gNoPart_i ?_
  | with_reducible refine gPart_i ?_
  | with_reducible refine gSlice_i ?_
  | with_reducible refine gSliceS_i ?_
  | ((with_reducible refine (show _ ≤ sizeLine ∧ _ from ?_)); refine And.intro (by rw [sizeLine_eq]; omega) ?_)
  | with_reducible refine gRevA_i ?_
  | with_reducible refine gStar_i ?_
  | with_reducible refine gIsi_i ?_
  | with_reducible refine gChain_i ?_
  | with_reducible refine gChain3_i ?_
  | with_reducible refine giAny_i ?_
  | with_reducible refine giTxt_i ?_
  | with_reducible refine giSeq_i ?_
  | with_reducible refine giEnum_i ?_
  | with_reducible refine giZip_i ?_
  | with_reducible refine zip_t ?_
  | with_reducible refine zip_l ?_
  | with_reducible refine one_ex ?_
  | with_reducible refine giRng1_i ?_
  | with_reducible refine giRng2_i ?_
  | with_reducible refine gPar_i ?_
  | with_reducible refine gPar3_i ?_
  | with_reducible refine gPar4_i ?_
  | ((with_reducible refine (show parK4 _ _ _ _ _ _ _ from ?_)); refine parK4_i (Nat.le_of_ble_eq_true rfl) (Nat.le_of_ble_eq_true rfl) (Nat.le_of_ble_eq_true rfl) (Nat.le_of_ble_eq_true rfl) rfl rfl rfl rfl ?_)
  | with_reducible refine gAsg_i ?_
  | ((with_reducible refine (show tgTup _ _ _ _ _ from ?_)); refine tgTup_i rfl ?_)
  | ((with_reducible refine (show tgLst _ _ _ _ _ from ?_)); refine tgLst_i rfl ?_)
  | with_reducible refine tgsNil_i ?_
  | with_reducible refine tgsCons_i ?_
  | with_reducible refine tgSub_i ?_
  | with_reducible refine gYes_i ?_
  | with_reducible refine gAndV_i ?_
  | with_reducible refine gOrV_i ?_
  | with_reducible refine cl_ex ?_
  | with_reducible refine star_t ?_
  | with_reducible refine star_l ?_
  | with_reducible refine And.intro rfl ?_
  | ((with_reducible refine (show (_ ∧ _) ∧ _ from ?_)); refine And.intro ⟨rfl, rfl⟩ ?_)
  | with_reducible refine gRtD_nx ?_
  | ((with_reducible refine (show tgName _ _ _ _ from ?_)); refine tgName_i (Nat.le_of_ble_eq_true rfl) ?_)
  | ((with_reducible refine (show DEnds.rt _ _ _ from ?_)); refine gRtD_rt rfl ?_)
  | ((with_reducible refine (show parK _ _ _ _ _ from ?_)); refine parK_i (Nat.le_of_ble_eq_true rfl) (Nat.le_of_ble_eq_true rfl) rfl rfl ?_)
  | ((with_reducible refine (show parK3 _ _ _ _ _ _ from ?_)); refine parK3_i (Nat.le_of_ble_eq_true rfl) (Nat.le_of_ble_eq_true rfl) (Nat.le_of_ble_eq_true rfl) rfl rfl rfl ?_)
  | ((with_reducible refine (show (if _ = true then _ else _) from ?_)); first | refine ite_t rfl ?_ | refine ite_f rfl ?_)
  | ((with_reducible refine (show ok (dat2 (eqD false) _ _ _) _ from ?_)); (fail_if_success with_reducible refine (show ok (dat2 _ _ (Res.cl (.str (PyData.shown _))) _) _ from ?_)); (with_reducible refine (show ok (dat2 (eqD false) _ (Res.cl (.str (Str.ofString _))) (Res.cl (.str (Str.ofString _)))) _ from ?_)); first | refine ok_i (dat2_e (d := .str (Str.ofString _)) (e := .str (Str.ofString _)) rfl rfl (eq_lit (r := true) (by decide +kernel))) ?_ | refine ok_i (dat2_e (d := .str (Str.ofString _)) (e := .str (Str.ofString _)) rfl rfl (eq_lit (r := false) (by decide +kernel))) ?_)
  | ((with_reducible refine (show ok (dat2 (eqD true) _ _ _) _ from ?_)); (fail_if_success with_reducible refine (show ok (dat2 _ _ (Res.cl (.str (PyData.shown _))) _) _ from ?_)); (with_reducible refine (show ok (dat2 (eqD true) _ (Res.cl (.str (Str.ofString _))) (Res.cl (.str (Str.ofString _)))) _ from ?_)); first | refine ok_i (dat2_e (d := .str (Str.ofString _)) (e := .str (Str.ofString _)) rfl rfl (ne_lit (r := true) (by decide +kernel))) ?_ | refine ok_i (dat2_e (d := .str (Str.ofString _)) (e := .str (Str.ofString _)) rfl rfl (ne_lit (r := false) (by decide +kernel))) ?_)
  | ((with_reducible refine (show ok (dat2 (eqD false) _ _ _) _ from ?_)); first | refine ok_i (dat2_e (d := .int _) (e := .int _) rfl rfl (eq_i _ _)) ?_ | refine ok_i (dat2_e (d := .tuple (pis _)) (e := .tuple (pis _)) rfl rfl (eq_t _ _)) ?_ | refine ok_i (dat2_e (d := .list (pis _)) (e := .list (pis _)) rfl rfl (eq_l _ _)) ?_ | refine ok_i (dat2_e (d := .bool _) (e := .bool _) rfl rfl (eq_bb _ _)) ?_)
  | ((with_reducible refine (show ok (dat2 (eqD true) _ _ _) _ from ?_)); first | refine ok_i (dat2_e (d := .int _) (e := .int _) rfl rfl (ne_i _ _)) ?_ | refine ok_i (dat2_e (d := .tuple (pis _)) (e := .tuple (pis _)) rfl rfl (ne_t _ _)) ?_ | refine ok_i (dat2_e (d := .list (pis _)) (e := .list (pis _)) rfl rfl (ne_l _ _)) ?_)
  | ((with_reducible refine (show ok (dat2 (inD false) _ _ _) _ from ?_)); first | refine ok_i (dat2_e (d := .int _) (e := .tuple (pis _)) rfl rfl (in_t _ _)) ?_ | refine ok_i (dat2_e (d := lnD _) (e := .tuple (List.map lnD _)) rfl rfl (in_lns _ _)) ?_ | refine ok_i (dat2_e (d := .tuple [.int _, .int _]) (e := .tuple (List.map lnD _)) rfl rfl (in_ln2 _ _ _)) ?_ | refine ok_i (dat2_e (d := .int _) (e := .list (pis _)) rfl rfl (in_l _ _)) ?_)
  | ((with_reducible refine (show ok (dat2 (inD true) _ _ _) _ from ?_)); first | refine ok_i (dat2_e (d := .int _) (e := .tuple (pis _)) rfl rfl (ni_t _ _)) ?_ | refine ok_i (dat2_e (d := lnD _) (e := .tuple (List.map lnD _)) rfl rfl (ni_lns _ _)) ?_ | refine ok_i (dat2_e (d := lnD _) (e := .list (List.map lnD _)) rfl rfl (ni_lnl _ _)) ?_ | refine ok_i (dat2_e (d := .tuple [.int _, .int _]) (e := .tuple (List.map lnD _)) rfl rfl (ni_ln2 _ _ _)) ?_ | refine ok_i (dat2_e (d := .int _) (e := .list (pis _)) rfl rfl (ni_l _ _)) ?_)
  | ((with_reducible refine (show opK (lift2 mulO) _ _ _ _ _ from ?_)); refine opK_i (lift2_e rfl rfl (mulI (by simp only [cMul, c64, Bool.or_eq_true, Bool.and_eq_true, decide_eq_true_eq]; omega))) ?_)
  | ((with_reducible refine (show ok _ _ from ?_)); (fail_if_success with_reducible refine (show ok (dat1 reprD _ _) _ from ?_)); (fail_if_success with_reducible refine (show ok (dat2 (eqD _) _ _ _) _ from ?_)); (fail_if_success with_reducible refine (show ok (dat2 (inD _) _ _ _) _ from ?_)); refine ok_i rfl ?_)
  | ((with_reducible refine (show (_ ∧ _) ∧ _ from ?_)); refine And.intro ⟨(show ndK _ = true from rfl), Nat.le_of_ble_eq_true rfl⟩ ?_)
  | ((with_reducible refine (show opK (lift2 addO) _ _ _ _ _ from ?_)); first | refine opK_i (lift2_e rfl rfl (addTb (by walk_at "dt ln") (by walk_at "dt ln") (by omega))) ?_ | refine opK_i (lift2_e rfl rfl (addLb rfl rfl (by walk_at "dt ln") (by walk_at "dt ln") (by omega))) ?_)
  | ((with_reducible refine (show fnK (dat1 strD) _ _ _ _ from ?_)); refine fnK_i (str_i (by first | omega | (simp only; omega)) (by first | omega | (simp only; omega))) ?_)
  | ((with_reducible refine (show fnK (dat1 reprD) _ _ _ _ from ?_)); refine fnK_i (repr_t rfl (by walk_at "dt tl") (by omega) (by omega)) ?_)
  | ((with_reducible refine (show ok (dat2 (eqD false) _ _ _) _ from ?_)); refine ok_i (dat2_e (d := .str (PyData.shown _)) (e := .str (PyData.shown _)) rfl rfl (eq_selfT (by walk_at "dt tl"))) ?_)
  | ((with_reducible refine (show ok (dat2 (eqD true) _ _ _) _ from ?_)); refine ok_i (dat2_e (d := .str (PyData.shown _)) (e := .str (PyData.shown _)) rfl rfl (ne_selfT (by walk_at "dt tl"))) ?_)
  | ((with_reducible refine (show fnK mkTup _ _ _ _ from ?_)); refine fnK_i (mkTup_e rfl (small (m := 100) (Nat.le_of_ble_eq_true rfl))) ?_)
  | ((with_reducible refine (show fnK mkLst _ _ _ _ from ?_)); refine fnK_i (mkLst_e rfl (small (m := 100) (Nat.le_of_ble_eq_true rfl))) ?_)
  | ((with_reducible refine (show opK (lift2 _) _ _ _ _ _ from ?_)); refine opK_i (lift2_e rfl rfl (mulI (by simp only [cMul, c64, Bool.or_eq_true, Bool.and_eq_true, decide_eq_true_eq]; omega))) ?_)
  | ((with_reducible refine (show opK (lift2 _) _ _ _ _ _ from ?_)); refine opK_i (lift2_e rfl rfl (intO_e (by simp only [cMod, cDiv, cDivW, decide_eq_true_eq, Bool.and_eq_true]; omega))) ?_)
  | ((with_reducible refine (show opK (lift2 _) _ _ _ _ _ from ?_)); refine opK_i (lift2_e rfl rfl (intO_e (by decide +kernel))) ?_)
  | walk_at "dt use"))
local macro_rules | `(tactic| walk_at "dt gi") => `(tactic| repeat (first
  | ((with_reducible refine (show gVar _ _ _ from ?_)); refine gVar_i rfl ?_)
  | with_reducible refine gCons_i ?_
  | with_reducible refine Dt.gNil_i ?_
  | with_reducible refine gC_i ?_
  | with_reducible refine gOp_i ?_
  | ((with_reducible refine (show (_ → _) ∧ _ from ?_)); refine And.intro (fun z => by first | exact absurd z Bool.false_ne_true | rfl) ?_)
  | with_reducible refine gTst_i ?_
  | with_reducible refine gSeq_i ?_
  | with_reducible refine gSet_i ?_
  | ((with_reducible refine (show setK _ _ _ _ from ?_)); refine setK_i rfl (Nat.le_of_ble_eq_true rfl) ?_)
  | with_reducible refine gN_i ?_
  | with_reducible refine gFz_i ?_
  | with_reducible refine gRet_i ?_
  | with_reducible refine gCall_i ?_
  | with_reducible refine gRetN_i ?_
  | with_reducible refine gExpr_i ?_
  | with_reducible refine gNext_i ?_
  | with_reducible refine gCont_i ?_
  | with_reducible refine gNot_i ?_
  | with_reducible refine gAnd_i ?_
  | with_reducible refine gOr_i ?_
  | with_reducible refine gNR_i ?_
  | with_reducible refine gTx_i ?_
  | with_reducible refine str_ex ?_
  | with_reducible refine int_ex ?_
  | with_reducible refine gLD_i ?_
  | with_reducible refine gLD4_i ?_
  | with_reducible refine gLS_i ?_
  | with_reducible refine gSSA_i ?_
  | with_reducible refine gDGetF_i ?_
  | ((with_reducible refine (show ok (dAtF _ _) _ from ?_)); first | refine ok_i (dAtF_1 (by decide +kernel)) ?_ | refine ok_i (dAtF_n (by decide +kernel) (dAtF_1 (by decide +kernel))) ?_ | refine ok_i (dAtF_n (by decide +kernel) (dAtF_n (by decide +kernel) (dAtF_1 (by decide +kernel)))) ?_)
  | with_reducible refine gLcR_i ?_
  | ((with_reducible refine (show lcrK _ _ _ _ _ from ?_)); refine lcr_i rfl ?_)
  | ((with_reducible refine (show fnK (intsF minI) _ _ _ _ from ?_)); refine min_i rfl ?_)
  | ((with_reducible refine (show fnK (intsF maxI) _ _ _ _ from ?_)); refine max_i rfl ?_)
  | ((with_reducible refine (show gFrz _ _ _ from ?_)); refine gFrz_i rfl rfl (Nat.le_of_ble_eq_true rfl) ?_)
  | with_reducible refine gKG_i ?_
  | with_reducible refine gRgV1_i ?_
  | with_reducible refine gRgV2_i ?_
  | with_reducible refine gSD_i ?_
  | with_reducible refine gSS_i ?_
  | with_reducible refine gSSP_i ?_
  | with_reducible refine gSortRg_i ?_
  | with_reducible refine gRdQ_s ?_
  | ((with_reducible refine (show sqK _ _ _ from ?_)); refine sq_i rfl ?_)
  | with_reducible refine gNotV_i ?_
  | with_reducible refine gNeg_i ?_
  | with_reducible refine gCallX_i ?_
  | with_reducible refine gCallXK_i ?_
  | with_reducible refine gRaise0_i ?_
  | with_reducible refine gRaise1_i ?_
  | with_reducible refine one_exc ?_
  | with_reducible refine gTry_i ?_
  | with_reducible refine gTryN_i ?_
  | with_reducible refine gCallK_i ?_
  | with_reducible refine gFor_i ?_
  | with_reducible refine gLc_i ?_
  | with_reducible refine gDGet_i ?_
  | with_reducible refine gAtt_i ?_
  | ((with_reducible refine (show attK _ _ _ _ _ _ from ?_)); refine attK_i rfl ?_)
  | with_reducible refine gMethC_i ?_
  | ((with_reducible refine (show insNo _ _ _ _ ∧ _ from ?_)); refine And.intro ⟨_, rfl, rfl⟩ ?_)
  | with_reducible refine gMake_i ?_
  | ((with_reducible refine (show makeK _ _ _ _ _ _ from ?_)); refine makeK_i rfl rfl ?_)
  | with_reducible refine gASet_i ?_
  | with_reducible refine gATg_i ?_
  | ((with_reducible refine (show (_ ∧ _ < 1000) ∧ _ from ?_)); refine And.intro ⟨rfl, Nat.le_of_ble_eq_true rfl⟩ ?_)
  | with_reducible refine gMeth_i ?_
  | with_reducible refine gDPut_i ?_
  | with_reducible refine gDisp_i ?_
  | with_reducible refine gPairs_nil ?_
  | with_reducible refine gPairs_cons ?_
  | with_reducible refine gRdM_i ?_
  | with_reducible refine gNoPart_i ?_
  | with_reducible refine gPart_i ?_
  | with_reducible refine gSlice_i ?_
  | with_reducible refine gSliceS_i ?_
  | ((with_reducible refine (show _ ≤ sizeLine ∧ _ from ?_)); refine And.intro (by rw [sizeLine_eq]; omega) ?_)
  | with_reducible refine gRevA_i ?_
  | with_reducible refine gStar_i ?_
  | with_reducible refine gIsi_i ?_
  | with_reducible refine gChain_i ?_
  | with_reducible refine gChain3_i ?_
  | with_reducible refine giAny_i ?_
  | with_reducible refine giTxt_i ?_
  | with_reducible refine giSeq_i ?_
  | with_reducible refine giEnum_i ?_
  | with_reducible refine giZip_i ?_
  | with_reducible refine zip_t ?_
  | with_reducible refine zip_l ?_
  | with_reducible refine one_ex ?_
  | with_reducible refine giRng1_i ?_
  | with_reducible refine giRng2_i ?_
  | with_reducible refine gPar_i ?_
  | with_reducible refine gPar3_i ?_
  | with_reducible refine gPar4_i ?_
  | ((with_reducible refine (show parK4 _ _ _ _ _ _ _ from ?_)); refine parK4_i (Nat.le_of_ble_eq_true rfl) (Nat.le_of_ble_eq_true rfl) (Nat.le_of_ble_eq_true rfl) (Nat.le_of_ble_eq_true rfl) rfl rfl rfl rfl ?_)
  | with_reducible refine gAsg_i ?_
  | ((with_reducible refine (show tgTup _ _ _ _ _ from ?_)); refine tgTup_i rfl ?_)
  | ((with_reducible refine (show tgLst _ _ _ _ _ from ?_)); refine tgLst_i rfl ?_)
  | with_reducible refine tgsNil_i ?_
  | with_reducible refine tgsCons_i ?_
  | with_reducible refine tgSub_i ?_
  | with_reducible refine gYes_i ?_
  | with_reducible refine gAndV_i ?_
  | with_reducible refine gOrV_i ?_
  | with_reducible refine cl_ex ?_
  | with_reducible refine star_t ?_
  | with_reducible refine star_l ?_
  | with_reducible refine And.intro rfl ?_
  | ((with_reducible refine (show (_ ∧ _) ∧ _ from ?_)); refine And.intro ⟨rfl, rfl⟩ ?_)
  | with_reducible refine gRtD_nx ?_
  | ((with_reducible refine (show tgName _ _ _ _ from ?_)); refine tgName_i (Nat.le_of_ble_eq_true rfl) ?_)
  | ((with_reducible refine (show DEnds.rt _ _ _ from ?_)); refine gRtD_rt rfl ?_)
  | ((with_reducible refine (show parK _ _ _ _ _ from ?_)); refine parK_i (Nat.le_of_ble_eq_true rfl) (Nat.le_of_ble_eq_true rfl) rfl rfl ?_)
  | ((with_reducible refine (show parK3 _ _ _ _ _ _ from ?_)); refine parK3_i (Nat.le_of_ble_eq_true rfl) (Nat.le_of_ble_eq_true rfl) (Nat.le_of_ble_eq_true rfl) rfl rfl rfl ?_)
  | ((with_reducible refine (show (if _ = true then _ else _) from ?_)); first | refine ite_t rfl ?_ | refine ite_f rfl ?_)
  | ((with_reducible refine (show ok (dat2 (eqD false) _ _ _) _ from ?_)); (fail_if_success with_reducible refine (show ok (dat2 _ _ (Res.cl (.str (PyData.shown _))) _) _ from ?_)); (with_reducible refine (show ok (dat2 (eqD false) _ (Res.cl (.str (Str.ofString _))) (Res.cl (.str (Str.ofString _)))) _ from ?_)); first | refine ok_i (dat2_e (d := .str (Str.ofString _)) (e := .str (Str.ofString _)) rfl rfl (eq_lit (r := true) (by decide +kernel))) ?_ | refine ok_i (dat2_e (d := .str (Str.ofString _)) (e := .str (Str.ofString _)) rfl rfl (eq_lit (r := false) (by decide +kernel))) ?_)
  | ((with_reducible refine (show ok (dat2 (eqD true) _ _ _) _ from ?_)); (fail_if_success with_reducible refine (show ok (dat2 _ _ (Res.cl (.str (PyData.shown _))) _) _ from ?_)); (with_reducible refine (show ok (dat2 (eqD true) _ (Res.cl (.str (Str.ofString _))) (Res.cl (.str (Str.ofString _)))) _ from ?_)); first | refine ok_i (dat2_e (d := .str (Str.ofString _)) (e := .str (Str.ofString _)) rfl rfl (ne_lit (r := true) (by decide +kernel))) ?_ | refine ok_i (dat2_e (d := .str (Str.ofString _)) (e := .str (Str.ofString _)) rfl rfl (ne_lit (r := false) (by decide +kernel))) ?_)
  | ((with_reducible refine (show ok (dat2 (eqD false) _ _ _) _ from ?_)); first | refine ok_i (dat2_e (d := .int _) (e := .int _) rfl rfl (eq_i _ _)) ?_ | refine ok_i (dat2_e (d := .tuple (pis _)) (e := .tuple (pis _)) rfl rfl (eq_t _ _)) ?_ | refine ok_i (dat2_e (d := .list (pis _)) (e := .list (pis _)) rfl rfl (eq_l _ _)) ?_ | refine ok_i (dat2_e (d := .bool _) (e := .bool _) rfl rfl (eq_bb _ _)) ?_)
  | ((with_reducible refine (show ok (dat2 (eqD true) _ _ _) _ from ?_)); first | refine ok_i (dat2_e (d := .int _) (e := .int _) rfl rfl (ne_i _ _)) ?_ | refine ok_i (dat2_e (d := .tuple (pis _)) (e := .tuple (pis _)) rfl rfl (ne_t _ _)) ?_ | refine ok_i (dat2_e (d := .list (pis _)) (e := .list (pis _)) rfl rfl (ne_l _ _)) ?_)
  | ((with_reducible refine (show ok (dat2 (inD false) _ _ _) _ from ?_)); first | refine ok_i (dat2_e (d := .int _) (e := .tuple (pis _)) rfl rfl (in_t _ _)) ?_ | refine ok_i (dat2_e (d := lnD _) (e := .tuple (List.map lnD _)) rfl rfl (in_lns _ _)) ?_ | refine ok_i (dat2_e (d := .tuple [.int _, .int _]) (e := .tuple (List.map lnD _)) rfl rfl (in_ln2 _ _ _)) ?_ | refine ok_i (dat2_e (d := .int _) (e := .list (pis _)) rfl rfl (in_l _ _)) ?_)
  | ((with_reducible refine (show ok (dat2 (inD true) _ _ _) _ from ?_)); first | refine ok_i (dat2_e (d := .int _) (e := .tuple (pis _)) rfl rfl (ni_t _ _)) ?_ | refine ok_i (dat2_e (d := lnD _) (e := .tuple (List.map lnD _)) rfl rfl (ni_lns _ _)) ?_ | refine ok_i (dat2_e (d := lnD _) (e := .list (List.map lnD _)) rfl rfl (ni_lnl _ _)) ?_ | refine ok_i (dat2_e (d := .tuple [.int _, .int _]) (e := .tuple (List.map lnD _)) rfl rfl (ni_ln2 _ _ _)) ?_ | refine ok_i (dat2_e (d := .int _) (e := .list (pis _)) rfl rfl (ni_l _ _)) ?_)
  | ((with_reducible refine (show opK (lift2 mulO) _ _ _ _ _ from ?_)); refine opK_i (lift2_e rfl rfl (mulI (by simp only [cMul, c64, Bool.or_eq_true, Bool.and_eq_true, decide_eq_true_eq]; omega))) ?_)
  | ((with_reducible refine (show ok _ _ from ?_)); (fail_if_success with_reducible refine (show ok (dat1 reprD _ _) _ from ?_)); (fail_if_success with_reducible refine (show ok (dat2 (eqD _) _ _ _) _ from ?_)); (fail_if_success with_reducible refine (show ok (dat2 (inD _) _ _ _) _ from ?_)); refine ok_i rfl ?_)
  | ((with_reducible refine (show (_ ∧ _) ∧ _ from ?_)); refine And.intro ⟨(show ndK _ = true from rfl), Nat.le_of_ble_eq_true rfl⟩ ?_)
  | ((with_reducible refine (show opK (lift2 addO) _ _ _ _ _ from ?_)); first | refine opK_i (lift2_e rfl rfl (addTb (by walk_at "dt ln") (by walk_at "dt ln") (by omega))) ?_ | refine opK_i (lift2_e rfl rfl (addLb rfl rfl (by walk_at "dt ln") (by walk_at "dt ln") (by omega))) ?_)
  | ((with_reducible refine (show fnK (dat1 strD) _ _ _ _ from ?_)); refine fnK_i (str_i (by first | omega | (simp only; omega)) (by first | omega | (simp only; omega))) ?_)
  | ((with_reducible refine (show fnK (dat1 reprD) _ _ _ _ from ?_)); refine fnK_i (repr_t rfl (by walk_at "dt tl") (by omega) (by omega)) ?_)
  | ((with_reducible refine (show ok (dat2 (eqD false) _ _ _) _ from ?_)); refine ok_i (dat2_e (d := .str (PyData.shown _)) (e := .str (PyData.shown _)) rfl rfl (eq_selfT (by walk_at "dt tl"))) ?_)
  | ((with_reducible refine (show ok (dat2 (eqD true) _ _ _) _ from ?_)); refine ok_i (dat2_e (d := .str (PyData.shown _)) (e := .str (PyData.shown _)) rfl rfl (ne_selfT (by walk_at "dt tl"))) ?_)
  | ((with_reducible refine (show fnK mkTup _ _ _ _ from ?_)); refine fnK_i (mkTup_e rfl (small (m := 100) (Nat.le_of_ble_eq_true rfl))) ?_)
  | ((with_reducible refine (show fnK mkLst _ _ _ _ from ?_)); refine fnK_i (mkLst_e rfl (small (m := 100) (Nat.le_of_ble_eq_true rfl))) ?_)
  | ((with_reducible refine (show opK (lift2 _) _ _ _ _ _ from ?_)); refine opK_i (lift2_e rfl rfl (mulI (by simp only [cMul, c64, Bool.or_eq_true, Bool.and_eq_true, decide_eq_true_eq]; omega))) ?_)
  | ((with_reducible refine (show opK (lift2 _) _ _ _ _ _ from ?_)); refine opK_i (lift2_e rfl rfl (intO_e (by simp only [cMod, cDiv, cDivW, decide_eq_true_eq, Bool.and_eq_true]; omega))) ?_)
  | ((with_reducible refine (show opK (lift2 _) _ _ _ _ _ from ?_)); refine opK_i (lift2_e rfl rfl (intO_e (by decide +kernel))) ?_)
  | walk_at "dt use"))
def topS (i : Nat) : Stmt := PySem.Challenge.pw_oddlines_k27_whole_odd_sets_of_many_peop.main.body.getD i (.Pass ⟨0, 0, 0, 0⟩)
abbrev s_law_jar : Stmt := topS 15
theorem sc_law_jar : FnScope ["script", "own", "far", "cells", "seal"] ["script"] (defScope s_law_jar) := ⟨rfl, rfl, rfl, by decide +kernel, rfl, by decide +kernel, by decide +kernel⟩
abbrev s_law_draw : Stmt := topS 16
theorem sc_law_draw : FnScope ["jar", "many", "far", "mix", "whole", "count", "cells"] ["jar", "many"] (defScope s_law_draw) := ⟨rfl, rfl, rfl, by decide +kernel, rfl, by decide +kernel, by decide +kernel⟩
abbrev s_law_powers : Stmt := topS 20
theorem sc_law_powers : FnScope ["many", "found", "turn"] ["many"] (defScope s_law_powers) := ⟨rfl, rfl, rfl, by decide +kernel, rfl, by decide +kernel, by decide +kernel⟩
abbrev s_law_far_set : Stmt := topS 24
theorem sc_law_far_set : FnScope ["jar", "many", "picks", "ends", "items", "small", "wants_size", "wants_sum", "turn", "item"] ["jar", "many"] (defScope s_law_far_set) := ⟨rfl, rfl, rfl, by decide +kernel, rfl, by decide +kernel, by decide +kernel⟩
abbrev s_Taking_take : Stmt := inClass (topS 11) 4
theorem sc_Taking_take : FnScope ["self", "number"] ["self", "number"] (defScope s_Taking_take) := ⟨rfl, rfl, rfl, by decide +kernel, rfl, by decide +kernel, by decide +kernel⟩
abbrev s_is_integer : Stmt := topS 4
theorem sc_is_integer : FnScope ["thing"] ["thing"] (defScope s_is_integer) := ⟨rfl, rfl, rfl, by decide +kernel, rfl, by decide +kernel, by decide +kernel⟩
abbrev s_is_rising : Stmt := topS 6
theorem sc_is_rising : FnScope ["many", "value", "one", "other", "item"] ["many", "value"] (defScope s_is_rising) := ⟨rfl, rfl, rfl, by decide +kernel, rfl, by decide +kernel, by decide +kernel⟩
abbrev s_set_error : Stmt := topS 7
theorem sc_set_error : FnScope ["many", "value"] ["many", "value"] (defScope s_set_error) := ⟨rfl, rfl, rfl, by decide +kernel, rfl, by decide +kernel, by decide +kernel⟩
abbrev s_doublings : Stmt := topS 8
theorem sc_doublings : FnScope ["many", "found", "turn"] ["many"] (defScope s_doublings) := ⟨rfl, rfl, rfl, by decide +kernel, rfl, by decide +kernel, by decide +kernel⟩
abbrev s_Taking_init : Stmt := inClass (topS 11) 0
theorem sc_Taking_init : FnScope ["self", "many"] ["self", "many"] (defScope s_Taking_init) := ⟨rfl, rfl, rfl, by decide +kernel, rfl, by decide +kernel, by decide +kernel⟩
abbrev s_Taking_is_set : Stmt := inClass (topS 11) 2
theorem sc_Taking_is_set : FnScope ["self"] ["self"] (defScope s_Taking_is_set) := ⟨rfl, rfl, rfl, by decide +kernel, rfl, by decide +kernel, by decide +kernel⟩
abbrev s_Taking_top_behind : Stmt := inClass (topS 11) 1
theorem sc_Taking_top_behind : FnScope ["self", "number"] ["self", "number"] (defScope s_Taking_top_behind) := ⟨rfl, rfl, rfl, by decide +kernel, rfl, by decide +kernel, by decide +kernel⟩
abbrev s_lots : Stmt := topS 10
theorem sc_lots : FnScope ["powers", "size", "parity"] ["powers", "size", "parity"] (defScope s_lots) := ⟨rfl, rfl, rfl, by decide +kernel, rfl, by decide +kernel, by decide +kernel⟩
abbrev s_Taking_begun_with : Stmt := inClass (topS 11) 3
theorem sc_Taking_begun_with : FnScope ["self", "number", "top", "odds", "evens", "size", "total"] ["self", "number"] (defScope s_Taking_begun_with) := ⟨rfl, rfl, rfl, by decide +kernel, rfl, by decide +kernel, by decide +kernel⟩
abbrev s_number_of_set : Stmt := topS 13
theorem sc_number_of_set : FnScope ["many", "chosen", "number", "taking", "ahead", "low", "one"] ["many", "chosen"] (defScope s_number_of_set) := ⟨rfl, rfl, rfl, by decide +kernel, rfl, by decide +kernel, by decide +kernel⟩
abbrev s_law_pick : Stmt := topS 17
theorem sc_law_pick : FnScope ["jar", "row"] ["jar", "row"] (defScope s_law_pick) := ⟨rfl, rfl, rfl, by decide +kernel, rfl, by decide +kernel, by decide +kernel⟩
abbrev s_set_count : Stmt := topS 9
theorem sc_set_count : FnScope ["many"] ["many"] (defScope s_set_count) := ⟨rfl, rfl, rfl, by decide +kernel, rfl, by decide +kernel, by decide +kernel⟩
abbrev s_set_at : Stmt := topS 12
theorem sc_set_at : FnScope ["many", "number", "taking", "ahead", "low"] ["many", "number"] (defScope s_set_at) := ⟨rfl, rfl, rfl, by decide +kernel, rfl, by decide +kernel, by decide +kernel⟩
abbrev s_law_is_whole : Stmt := topS 18
theorem sc_law_is_whole : FnScope ["value", "low", "high"] ["value", "low", "high"] (defScope s_law_is_whole) := ⟨rfl, rfl, rfl, by decide +kernel, rfl, by decide +kernel, by decide +kernel⟩
abbrev s_law_set_wrong : Stmt := topS 19
theorem sc_law_set_wrong : FnScope ["many", "value", "place", "item"] ["many", "value"] (defScope s_law_set_wrong) := ⟨rfl, rfl, rfl, by decide +kernel, rfl, by decide +kernel, by decide +kernel⟩
abbrev s_law_halves : Stmt := topS 21
theorem sc_law_halves : FnScope ["powers", "items", "parity"] ["powers", "items", "parity"] (defScope s_law_halves) := ⟨rfl, rfl, rfl, by decide +kernel, rfl, by decide +kernel, by decide +kernel⟩
abbrev s_law_after : Stmt := topS 22
theorem sc_law_after : FnScope ["powers", "many", "head", "first", "last", "odds", "evens", "odd_need", "even_need"] ["powers", "many", "head"] (defScope s_law_after) := ⟨rfl, rfl, rfl, by decide +kernel, rfl, by decide +kernel, by decide +kernel⟩
abbrev s_law_ahead : Stmt := topS 23
theorem sc_law_ahead : FnScope ["powers", "many", "chosen", "found", "place", "head", "item"] ["powers", "many", "chosen"] (defScope s_law_ahead) := ⟨rfl, rfl, rfl, by decide +kernel, rfl, by decide +kernel, by decide +kernel⟩
abbrev s_law : Stmt := topS 25
theorem sc_law : FnScope ["script", "jar", "is_great", "turn", "many", "powers", "whole", "chosen", "place", "spot", "one", "other"] ["script"] (defScope s_law) := ⟨rfl, rfl, rfl, by decide +kernel, rfl, by decide +kernel, by decide +kernel⟩
/-- what the top has left -/
structure Facts (K : Fg) (mg : Str → Option Value) (T : Tbl) (w : World) where
  a_law_jar : Addr
  d_law_jar : FuncData
  u_law_jar : Fun K "_law_jar" "_law_jar" s_law_jar a_law_jar d_law_jar
  m_law_jar : mg "_law_jar" = some (.ref a_law_jar)
  a_law_draw : Addr
  d_law_draw : FuncData
  u_law_draw : Fun K "_law_draw" "_law_draw" s_law_draw a_law_draw d_law_draw
  m_law_draw : mg "_law_draw" = some (.ref a_law_draw)
  a_law_powers : Addr
  d_law_powers : FuncData
  u_law_powers : Fun K "_law_powers" "_law_powers" s_law_powers a_law_powers d_law_powers
  m_law_powers : mg "_law_powers" = some (.ref a_law_powers)
  a_law_far_set : Addr
  d_law_far_set : FuncData
  u_law_far_set : Fun K "_law_far_set" "_law_far_set" s_law_far_set a_law_far_set d_law_far_set
  m_law_far_set : mg "_law_far_set" = some (.ref a_law_far_set)
  a_Taking_take : Addr
  d_Taking_take : FuncData
  u_Taking_take : Fun K "take" "Taking.take" s_Taking_take a_Taking_take d_Taking_take
  a_is_integer : Addr
  d_is_integer : FuncData
  u_is_integer : Fun K "is_integer" "is_integer" s_is_integer a_is_integer d_is_integer
  m_is_integer : mg "is_integer" = some (.ref a_is_integer)
  a_is_rising : Addr
  d_is_rising : FuncData
  u_is_rising : Fun K "is_rising" "is_rising" s_is_rising a_is_rising d_is_rising
  m_is_rising : mg "is_rising" = some (.ref a_is_rising)
  a_set_error : Addr
  d_set_error : FuncData
  u_set_error : Fun K "set_error" "set_error" s_set_error a_set_error d_set_error
  m_set_error : mg "set_error" = some (.ref a_set_error)
  a_doublings : Addr
  d_doublings : FuncData
  u_doublings : Fun K "doublings" "doublings" s_doublings a_doublings d_doublings
  m_doublings : mg "doublings" = some (.ref a_doublings)
  a_Taking_init : Addr
  d_Taking_init : FuncData
  u_Taking_init : Fun K "__init__" "Taking.__init__" s_Taking_init a_Taking_init d_Taking_init
  a_Taking_is_set : Addr
  d_Taking_is_set : FuncData
  u_Taking_is_set : Fun K "is_set" "Taking.is_set" s_Taking_is_set a_Taking_is_set d_Taking_is_set
  a_Taking_top_behind : Addr
  d_Taking_top_behind : FuncData
  u_Taking_top_behind : Fun K "top_behind" "Taking.top_behind" s_Taking_top_behind a_Taking_top_behind d_Taking_top_behind
  a_lots : Addr
  d_lots : FuncData
  u_lots : Fun K "lots" "lots" s_lots a_lots d_lots
  m_lots : mg "lots" = some (.ref a_lots)
  a_Taking_begun_with : Addr
  d_Taking_begun_with : FuncData
  u_Taking_begun_with : Fun K "begun_with" "Taking.begun_with" s_Taking_begun_with a_Taking_begun_with d_Taking_begun_with
  a_number_of_set : Addr
  d_number_of_set : FuncData
  u_number_of_set : Fun K "number_of_set" "number_of_set" s_number_of_set a_number_of_set d_number_of_set
  m_number_of_set : mg "number_of_set" = some (.ref a_number_of_set)
  a_law_pick : Addr
  d_law_pick : FuncData
  u_law_pick : Fun K "_law_pick" "_law_pick" s_law_pick a_law_pick d_law_pick
  m_law_pick : mg "_law_pick" = some (.ref a_law_pick)
  a_set_count : Addr
  d_set_count : FuncData
  u_set_count : Fun K "set_count" "set_count" s_set_count a_set_count d_set_count
  m_set_count : mg "set_count" = some (.ref a_set_count)
  a_set_at : Addr
  d_set_at : FuncData
  u_set_at : Fun K "set_at" "set_at" s_set_at a_set_at d_set_at
  m_set_at : mg "set_at" = some (.ref a_set_at)
  a_law_is_whole : Addr
  d_law_is_whole : FuncData
  u_law_is_whole : Fun K "_law_is_whole" "_law_is_whole" s_law_is_whole a_law_is_whole d_law_is_whole
  m_law_is_whole : mg "_law_is_whole" = some (.ref a_law_is_whole)
  a_law_set_wrong : Addr
  d_law_set_wrong : FuncData
  u_law_set_wrong : Fun K "_law_set_wrong" "_law_set_wrong" s_law_set_wrong a_law_set_wrong d_law_set_wrong
  m_law_set_wrong : mg "_law_set_wrong" = some (.ref a_law_set_wrong)
  a_law_halves : Addr
  d_law_halves : FuncData
  u_law_halves : Fun K "_law_halves" "_law_halves" s_law_halves a_law_halves d_law_halves
  m_law_halves : mg "_law_halves" = some (.ref a_law_halves)
  a_law_after : Addr
  d_law_after : FuncData
  u_law_after : Fun K "_law_after" "_law_after" s_law_after a_law_after d_law_after
  m_law_after : mg "_law_after" = some (.ref a_law_after)
  a_law_ahead : Addr
  d_law_ahead : FuncData
  u_law_ahead : Fun K "_law_ahead" "_law_ahead" s_law_ahead a_law_ahead d_law_ahead
  m_law_ahead : mg "_law_ahead" = some (.ref a_law_ahead)
  a_law : Addr
  d_law : FuncData
  u_law : Fun K "law" "law" s_law a_law d_law
  m_law : mg "law" = some (.ref a_law)
  cl_Taking : Addr
  cc_Taking : Cls K cl_Taking
  mc_Taking : mg "Taking" = some (.ref cl_Taking)
  na_Taking_many : NoAttr K cl_Taking "many"
  na_Taking_powers : NoAttr K cl_Taking "powers"
  na_Taking_size : NoAttr K cl_Taking "size"
  na_Taking_taken : NoAttr K cl_Taking "taken"
  na_Taking_total : NoAttr K cl_Taking "total"
  me_Taking_begun_with : Meth K cl_Taking "begun_with" a_Taking_begun_with
  me_Taking_is_set : Meth K cl_Taking "is_set" a_Taking_is_set
  me_Taking_take : Meth K cl_Taking "take" a_Taking_take
  me_Taking_top_behind : Meth K cl_Taking "top_behind" a_Taking_top_behind
  mk_Taking : Mk K cl_Taking a_Taking_init
  z_all : mg "all" = none
  z_bool : mg "bool" = none
  z_enumerate : mg "enumerate" = none
  z_int : mg "int" = none
  z_isinstance : mg "isinstance" = none
  z_len : mg "len" = none
  z_range : mg "range" = none
  z_repr : mg "repr" = none
  z_set : mg "set" = none
  z_sorted : mg "sorted" = none
  z_sum : mg "sum" = none
  z_tuple : mg "tuple" = none
  z_zip : mg "zip" = none
section
variable {P : Program} {w : World} {K : Fg} {mg : Str → Option Value} {base : Heap} {T : Tbl}
theorem b_law_jar (E : Facts K mg T w) : Binds K E.d_law_jar ["script"] [] := E.u_law_jar.binds fun _ _ _ _ _ _ us hl => match us, hl with | [_], _ => rfl
theorem b_law_draw (E : Facts K mg T w) : Binds K E.d_law_draw ["jar", "many"] [] := E.u_law_draw.binds fun _ _ _ _ _ _ us hl => match us, hl with | [_, _], _ => rfl
theorem b_law_powers (E : Facts K mg T w) : Binds K E.d_law_powers ["many"] [] := E.u_law_powers.binds fun _ _ _ _ _ _ us hl => match us, hl with | [_], _ => rfl
theorem b_law_far_set (E : Facts K mg T w) : Binds K E.d_law_far_set ["jar", "many"] [] := E.u_law_far_set.binds fun _ _ _ _ _ _ us hl => match us, hl with | [_, _], _ => rfl
theorem b_Taking_take (E : Facts K mg T w) : Binds K E.d_Taking_take ["self", "number"] [] := E.u_Taking_take.binds fun _ _ _ _ _ _ us hl => match us, hl with | [_, _], _ => rfl
theorem b_is_integer (E : Facts K mg T w) : Binds K E.d_is_integer ["thing"] [] := E.u_is_integer.binds fun _ _ _ _ _ _ us hl => match us, hl with | [_], _ => rfl
theorem b_is_rising (E : Facts K mg T w) : Binds K E.d_is_rising ["many", "value"] [] := E.u_is_rising.binds fun _ _ _ _ _ _ us hl => match us, hl with | [_, _], _ => rfl
theorem b_set_error (E : Facts K mg T w) : Binds K E.d_set_error ["many", "value"] [] := E.u_set_error.binds fun _ _ _ _ _ _ us hl => match us, hl with | [_, _], _ => rfl
theorem b_doublings (E : Facts K mg T w) : Binds K E.d_doublings ["many"] [] := E.u_doublings.binds fun _ _ _ _ _ _ us hl => match us, hl with | [_], _ => rfl
theorem b_Taking_init (E : Facts K mg T w) : Binds K E.d_Taking_init ["self", "many"] [] := E.u_Taking_init.binds fun _ _ _ _ _ _ us hl => match us, hl with | [_, _], _ => rfl
theorem b_Taking_is_set (E : Facts K mg T w) : Binds K E.d_Taking_is_set ["self"] [] := E.u_Taking_is_set.binds fun _ _ _ _ _ _ us hl => match us, hl with | [_], _ => rfl
theorem b_Taking_top_behind (E : Facts K mg T w) : Binds K E.d_Taking_top_behind ["self", "number"] [] := E.u_Taking_top_behind.binds fun _ _ _ _ _ _ us hl => match us, hl with | [_, _], _ => rfl
theorem b_lots (E : Facts K mg T w) : Binds K E.d_lots ["powers", "size", "parity"] [] := E.u_lots.binds fun _ _ _ _ _ _ us hl => match us, hl with | [_, _, _], _ => rfl
theorem b_Taking_begun_with (E : Facts K mg T w) : Binds K E.d_Taking_begun_with ["self", "number"] [] := E.u_Taking_begun_with.binds fun _ _ _ _ _ _ us hl => match us, hl with | [_, _], _ => rfl
theorem b_number_of_set (E : Facts K mg T w) : Binds K E.d_number_of_set ["many", "chosen"] [] := E.u_number_of_set.binds fun _ _ _ _ _ _ us hl => match us, hl with | [_, _], _ => rfl
theorem b_law_pick (E : Facts K mg T w) : Binds K E.d_law_pick ["jar", "row"] [] := E.u_law_pick.binds fun _ _ _ _ _ _ us hl => match us, hl with | [_, _], _ => rfl
theorem b_set_count (E : Facts K mg T w) : Binds K E.d_set_count ["many"] [] := E.u_set_count.binds fun _ _ _ _ _ _ us hl => match us, hl with | [_], _ => rfl
theorem b_set_at (E : Facts K mg T w) : Binds K E.d_set_at ["many", "number"] [] := E.u_set_at.binds fun _ _ _ _ _ _ us hl => match us, hl with | [_, _], _ => rfl
theorem b_law_is_whole (E : Facts K mg T w) : Binds K E.d_law_is_whole ["value", "low", "high"] [] := E.u_law_is_whole.binds fun _ _ _ _ _ _ us hl => match us, hl with | [_, _, _], _ => rfl
theorem b_law_set_wrong (E : Facts K mg T w) : Binds K E.d_law_set_wrong ["many", "value"] [] := E.u_law_set_wrong.binds fun _ _ _ _ _ _ us hl => match us, hl with | [_, _], _ => rfl
theorem b_law_halves (E : Facts K mg T w) : Binds K E.d_law_halves ["powers", "items", "parity"] [] := E.u_law_halves.binds fun _ _ _ _ _ _ us hl => match us, hl with | [_, _, _], _ => rfl
theorem b_law_after (E : Facts K mg T w) : Binds K E.d_law_after ["powers", "many", "head"] [] := E.u_law_after.binds fun _ _ _ _ _ _ us hl => match us, hl with | [_, _, _], _ => rfl
theorem b_law_ahead (E : Facts K mg T w) : Binds K E.d_law_ahead ["powers", "many", "chosen"] [] := E.u_law_ahead.binds fun _ _ _ _ _ _ us hl => match us, hl with | [_, _, _], _ => rfl
theorem b_law (E : Facts K mg T w) : Binds K E.d_law ["script"] [] := E.u_law.binds fun _ _ _ _ _ _ us hl => match us, hl with | [_], _ => rfl
end
/-! ### _law_jar: level 1, io [False], slots ['script', 'own', 'far', 'cells', 'seal'] -/
def G_law_jar : Dt.Spec := fun os Q => ∃ ns : List Int, os = [.scr ns] ∧ ns.length ≤ 63 ∧ Q (.fr (.opq (jarC 0))) [none]
def g_law_jar : DS := (gSeq (gPar 3 4 (gCons (gFz (gLc [1] (giAny (gFz (gSlice (gVar 0) gNoPart (gPart (gC (.int 63)))))) (tgName 1) gYes (gFz (gIfE (gTst (gOp (lift2 (cmpO fun i j => decide (j ≤ i))) (gVar 1) (gC (.int 0)))) (gOp (lift2 mulO) (gC (.int 2)) (gVar 1)) (gOp (lift2 subO) (gOp (lift2 mulO) (gNeg (gC (.int 2))) (gVar 1)) (gC (.int 1))))))) (gCons (gFz (gOp (lift2 addO) (gC (.int 12779)) (gOp (lift2 mulO) (gC (.int 5)) (gN lenR (gCons (gVar 0) gNil))))) gNil))) (gSeq (gFor (giAny (gVar 3)) (tgName 1) [] (gSet 4 (gFz (gOp (lift2 (intO cMod fun i j => i % j)) (gN (dat1 intD) (gCons (gOp (lift2 addO) (gOp (lift2 addO) (gOp (lift2 mulO) (gVar 4) (gC (.int 16807))) (gOp (lift2 mulO) (gVar 1) (gC (.int 3)))) (gC (.int 5))) gNil)) (gC (.int 4294967279)))))) (gSeq (gSet 2 (gLc [1] (giAny (gVar 3)) (tgName 1) (gTst (gOp (lift2 (cmpO fun i j => decide (j ≤ i))) (gVar 1) (gOp (lift2 (intO cPow fun i j => i ^ j.toNat)) (gC (.int 10)) (gC (.int 18))))) (gVar 1))) (gRet (gJar 2 [(.inr "cells", (gOp (lift2 addO) (gVar 3) (gN mkLst (gCons (gFz (gOp (lift2 addO) (gOp (lift2 mulO) (gC (.int 7)) (gN lenR (gCons (gVar 3) gNil))) (gC (.int 3)))) gNil)))), (.inr "seal", (gVar 4)), (.inr "count", (gC (.int 0)))])))))
theorem P_law_jar : ∀ os Q0, os.length = 1 → G_law_jar os Q0 → g_law_jar (rtD [false] Q0) (startE 5 os) := by
  rintro _ Q0 - ⟨ns, rfl, hl, k⟩
  unfold g_law_jar
  walk_at "dt go"
  rw [show Dt.cutD (ns.map PyData.int) none (some 63) = (ns.take 63).map PyData.int by rw [List.map_take]; exact cut_take _ 63]
  have ht : (ns.take 63).length ≤ 63 := by rw [List.length_take]; omega
  refine lcK_map _ PyData.int (fun c => .int (if 0 ≤ c then 2 * c else -2 * c - 1)) (ns.take 63) rfl (by omega) (fun c hc K1 K0 h => ?_) ?_
  · walk_at "dt go"
    (first | refine ite_d (fun z => ?_) fun z => ?_ | refine ite_nd (fun z => ?_) fun z => ?_ | refine ite_b (fun z => ?_) fun z => ?_)
    · walk_at "dt go"
      rw [if_pos z] at h
      exact h _ rfl
    · walk_at "dt go"
      rw [if_neg z] at h
      exact h _ rfl
  rw [show (ns.take 63).map (fun c => PyData.int (if 0 ≤ c then 2 * c else -2 * c - 1)) = ((ns.take 63).map fun c => if 0 ≤ c then 2 * c else -2 * c - 1).map PyData.int by rw [List.map_map]; rfl]
  generalize hcs : ((ns.take 63).map fun c : Int => if 0 ≤ c then 2 * c else -2 * c - 1) = cs
  have hc : cs.length ≤ 63 := by rw [← hcs, List.length_map]; exact ht
  (walk_at "dt go"; ((try rw [putAt_nil rfl]); (try dsimp only [back, List.set, wipeE])))
  refine forL_inv (fun j ρ => ∃ (o : Option OV) (s : Int), ρ = [some (.scr ns), o, none, some (.fr (.list (cs.map .int))), some (.fr (.int s))]) ⟨_, _, rfl⟩ ?_ ?_
  · rintro j x _ hx ⟨o, s, rfl⟩ K hK
    obtain ⟨a, rfl, ha⟩ := ints_get hx
    walk_at "dt go"
    exact hK _ ⟨_, _, rfl⟩
  · rintro _ ⟨o, s, rfl⟩
    (walk_at "dt go"; ((try rw [putAt_nil rfl]); (try dsimp only [back, List.set, wipeE])))
    refine lcK_fm _ PyData.int (fun c => decide (1000000000000000000 ≤ c)) PyData.int cs rfl (by omega) (fun c hc K1 K0 h1 h0 => ?_) ?_
    · walk_at "dt go"
      (first | refine ite_d (fun z => ?_) fun z => ?_ | refine ite_nd (fun z => ?_) fun z => ?_ | refine ite_b (fun z => ?_) fun z => ?_)
      · walk_at "dt go"
        exact h1 (by simpa using z) _ rfl
      · walk_at "dt go"
        exact h0 (by simpa using z) _ rfl
    · (walk_at "dt go"; ((try rw [putAt_nil rfl]); (try dsimp only [back, List.set, wipeE])))
      unfold gJar
      refine ⟨cs.filter fun c => decide (1000000000000000000 ≤ c), rfl, Nat.le_trans (List.length_filter_le _ _) (by omega), ?_⟩
      (walk_at "dt go"; ((try rw [putAt_nil rfl]); (try dsimp only [back, List.set, wipeE])))
      refine opK_i (lift2_e rfl rfl (addL (a := cs.map .int) (b := [.int _]) rfl rfl (by rw [List.length_map, sizeLine_eq]; show cs.length + 1 ≤ _; omega))) ?_
      (walk_at "dt go"; ((try rw [putAt_nil rfl]); (try dsimp only [back, List.set, wipeE])))
      refine ⟨cs ++ [7 * (((cs.map PyData.int).length : Nat) : Int) + 3], s, by rw [List.map_append]; rfl, ⟨by simp, by simp; omega⟩, rfl, ?_⟩
      (walk_at "dt go"; ((try rw [putAt_nil rfl]); (try dsimp only [back, List.set, wipeE])))
      exact k
theorem ok_law_jar {P : Program} {w : World} {K : Fg} {mg : Str → Option Value} {base : Heap} {T : Tbl} (E : Facts K mg T w) : FnG P w K mg base CX0 1 E.a_law_jar E.d_law_jar ["script"] (spD K T 1 G_law_jar) :=
  fnD (g := g_law_jar) E.u_law_jar sc_law_jar T [false] rfl (by decide) (fun cdv A outer s H E0 vs hr hgd => by
    have hgd : (A.deeper (envOfC "_law_jar" (defScope s_law_jar) s.heap.objs.size E.a_law_jar cdv)).guards = some [] := hgd
    exact (db_cons (ds_par2 (i := 3) (j := 4) rfl sc_law_jar.nd rfl rfl (by decide) (noPinOf (by decide)) (noPinOf (by decide)) rfl rfl (da_cons (dv_fz (dv_lc (own := [("own", 1)]) (ts := [1]) rfl sc_law_jar.nd (di_any (dv_fz (dv_slice (dn 0) do_none (do_some dv_int)))) (blkOk_by (by rfl)) (fun _ _ _ _ _ => (dg_name (i := 1) sc_law_jar.nd rfl (by first | exact Or.inl rfl | exact Or.inr rfl) (noPinOf (by decide)))) (fun _ _ _ _ _ => dts_nil) (fun _ _ _ _ _ => (dv_fz (dv_if (dt_cmp op_ge (cmp_ok _ _) (dn 1) dv_int) (dv_op op_mulA (mulA_ok _) dv_int (dn 1)) (dv_op op_sub (sub_ok _) (dv_op op_mulA (mulA_ok _) (dv_neg dv_int) (dn 1)) dv_int)))) (by decide) (by intro i hi; exact noPinOf (by revert i; decide)))) (da_cons (dv_fz (dv_op op_addA (addA_ok _) dv_int (dv_op op_mulA (mulA_ok _) dv_int (dv_call call_lenA (len_ok _) rfl E.z_len (by decide +kernel) (da_cons (dn 0) da_nil))))) da_nil))) (db_cons (ds_for [] PassesOwn.never rfl (di_any (dn 3)) (dg_name (i := 1) sc_law_jar.nd rfl (by first | exact Or.inl rfl | exact Or.inr rfl) (noPinOf (by decide))) (db_one (ds_set (i := 4) sc_law_jar.nd rfl (by first | exact Or.inl rfl | exact Or.inr rfl) (dv_fz (dv_op op_mod (mod_ok _) (dv_callT call_int1 (int_ok _) rfl E.z_int (by decide +kernel) (da_cons (dv_op op_addA (addA_ok _) (dv_op op_addA (addA_ok _) (dv_op op_mulA (mulA_ok _) (dn 4) dv_int) (dv_op op_mulA (mulA_ok _) (dn 1) dv_int)) dv_int) da_nil)) dv_int)) (noPinOf (by decide))))) (db_cons (ds_setLc (i := 2) (own := [("own", 1)]) (ts := [1]) rfl sc_law_jar.nd rfl rfl (sw_true rfl rfl rfl (by decide +kernel)) (di_any (dn 3)) (blkOk_by (by rfl)) (fun _ _ _ _ _ => (dg_name (i := 1) sc_law_jar.nd rfl (by first | exact Or.inl rfl | exact Or.inr rfl) (noPinOf (by decide)))) (fun _ _ _ _ _ => (dts_one (dt_cmp op_ge (cmp_ok _ _) (dn 1) (dv_op op_pow (pow_ok _) dv_int dv_int)))) (fun _ _ _ _ _ => (dn 1)) (noPinOf (by decide)) (by decide) (by intro i hi; exact noPinOf (by revert i; decide))) (db_one (ds_ret (dv_jar (i := 2) rfl (by first | exact Or.inl rfl | exact Or.inr (Or.inl rfl) | exact Or.inr (Or.inr rfl)) (PKs.cons (k := .inr "cells") pe_str (dv_op op_addA (addA_ok _) (dn 3) (dv_lst (da_cons (dv_fz (dv_op op_addA (addA_ok _) (dv_op op_mulA (mulA_ok _) dv_int (dv_call call_lenA (len_ok _) rfl E.z_len (by decide +kernel) (da_cons (dn 3) da_nil))) dv_int)) da_nil))) (PKs.cons (k := .inr "seal") pe_str (dn 4) (PKs.cons (k := .inr "count") pe_str dv_int PKs.nil)))))))))) P_law_jar
/-! ### _law_draw: level 1, io [True, False], slots ['jar', 'many', 'far', 'mix', 'whole', 'count', 'cells'] -/
def G_law_draw : Dt.Spec := G_drawN jarC fun n m => n < 1000000000000 ∧ 1 ≤ m ∧ (m < 1073741824 ∨ m.natAbs.log2 < 9000)
-- builtins: int len
theorem ixV0 (g : V) (l : List V) : L2.ixN (g :: l).length 0 = some 0 := by
  unfold L2.ixN
  rw [if_pos (by decide), if_pos (by rw [List.length_cons]; omega)]
  rfl
theorem atV_of {gs : List Int} {i : Int} (h0 : 0 ≤ i) (h1 : i < (gs.length : Nat)) : ∃ g : Int, L2.atI (gs.map V.int) i = some (.int g) := by
  have hlt : i.toNat < gs.length := by omega
  refine ⟨gs[i.toNat], ?_⟩
  unfold L2.atI L2.ixN
  rw [if_pos h0, if_pos (by rw [List.length_map]; omega)]
  show (gs.map V.int)[i.toNat]? = _
  rw [List.getElem?_map, List.getElem?_eq_getElem hlt]
  rfl
theorem ok_law_draw {P : Program} {w : World} {K : Fg} {mg : Str → Option Value} {base : Heap} {T : Tbl} (E : Facts K mg T w) : FnG P w K mg base CX0 1 E.a_law_draw E.d_law_draw ["jar", "many"] (spD K T 2 G_law_draw) := by
  refine opq_fnN E.u_law_draw sc_law_draw T jarC _ fun cdv A outer s H0 E0 hr hgd => ?_
  refine ⟨_, PSs.nox (pss_cons (ps_set (i := 2) sc_law_draw.nd rfl (Or.inl rfl) (pe_dget (room_un hr _) (pv 0) pe_str (fun _ _ => rfl)))
    (pss_cons (ps_if (pt_cmpR (op_neD (room_un hr _)) (pv 2) (pe_lst pa_nil) rfl)
      (pss_cons (ps_set (i := 4) sc_law_draw.nd rfl (Or.inl rfl) (pe_bm PySem.F.plainAttrs_list PySem.F.slot_list_pop PySem.F.type_list_pop mt_popAt (pv 2) (pa_cons pe_int pa_nil)))
      (pss_cons (ps_if (pt_cmpR op_ge (pv 4) (pv 1) rfl) (pss_one (ps_expr (pe_bm PySem.F.plainAttrs_list PySem.F.slot_list_insert PySem.F.type_list_insert mt_insI (pv 2) (pa_cons pe_int (pa_cons (pe_op op_fdivW (pv 4) (pv 1)) pa_nil))))) pss_nil)
      (pss_one (ps_ret (pe_op op_mod (pe_callTy call_int1 rfl E.z_int (by decide +kernel) (pa_cons (pv 4) pa_nil)) (pv 1)))))) pss_nil)
    (pss_cons (ps_dput (room_un hr _) (pv 0) pe_str (pe_op op_add (pe_dget (room_un hr _) (pv 0) pe_str (fun _ _ => rfl)) pe_int) rfl)
    (pss_cons (ps_par (i := 5) (j := 6) rfl sc_law_draw.nd rfl rfl (by decide) rfl rfl (pa_cons (pe_dget (room_un hr _) (pv 0) pe_str (fun _ _ => rfl)) (pa_cons (pe_dget (room_un hr _) (pv 0) pe_str (fun _ _ => rfl)) pa_nil)) rfl rfl)
    (pss_cons (ps_set (i := 3) sc_law_draw.nd rfl (Or.inl rfl) (pe_op op_mod (pe_callTy call_int1 rfl E.z_int (by decide +kernel) (pa_cons (pe_op op_add (pe_op op_add (pe_dget (room_un hr _) (pv 0) pe_str (fun _ _ => rfl)) (pe_op op_mul pe_int (pe_callTy call_int1 rfl E.z_int (by decide +kernel) (pa_cons (pe_ix ix_seq (pv 6) (pe_op op_mod (pe_callTy call_int1 rfl E.z_int (by decide +kernel) (pa_cons (pv 5) pa_nil)) (pe_callB call_lenA rfl E.z_len (by decide +kernel) (pa_cons (pv 6) pa_nil) (by decide))) (fun _ _ => rfl)) pa_nil)))) (pe_op op_mul pe_int (pv 5))) pa_nil)) pe_int))
    (pss_cons (ps_set (i := 3) sc_law_draw.nd rfl (Or.inl rfl) (pe_op op_mod (pe_callTy call_int1 rfl E.z_int (by decide +kernel) (pa_cons (pe_op op_add (pe_op op_add (pe_op op_mul (pv 3) pe_int) (pe_op op_mul (pv 5) (pv 5))) pe_int) pa_nil)) pe_int))
    (pss_cons (ps_set (i := 3) sc_law_draw.nd rfl (Or.inl rfl) (pe_op op_mod (pe_callTy call_int1 rfl E.z_int (by decide +kernel) (pa_cons (pe_op op_add (pe_op op_mul (pv 3) pe_int) (pe_op op_fdiv (pv 3) pe_int)) pa_nil)) pe_int))
    (pss_one (ps_ret (pe_op op_mod (pe_callTy call_int1 rfl E.z_int (by decide +kernel) (pa_cons (pe_op op_fdiv (pv 3) pe_int) pa_nil)) (pv 1))))))))))), ?_⟩
  rintro H v cs n m D ⟨a, b, c, fs, gs, sd, k, rfl, rfl, ⟨hab, hac, hbc⟩, ha, hb, hc, hl, ⟨hg0, hg⟩, hk0, hkn⟩ ⟨hn, hm0, hm⟩ fin
  have hmW : ∀ g : Int, CDivW g m := fun g => ⟨by omega, hm.elim (fun z => (wide_div (i := g) (b := 30) (by omega) (by omega) (by omega) (by omega)).2) id⟩
  have la : ∀ {H2 : Hp} {s2 k2 : Int}, H2 a = some (.dK (jarK b c s2 k2)) → DGet H2 a (V.str "far") (some (.ref b)) ∧ DGet H2 a (V.str "cells") (some (.ref c)) ∧ DGet H2 a (V.str "seal") (some (.int s2)) ∧ DGet H2 a (V.str "count") (some (.int k2)) := fun h => ⟨dg_of (k := .inr "far") h rfl, dg_of (k := .inr "cells") h rfl, dg_of (k := .inr "seal") h rfl, dg_of (k := .inr "count") h rfl⟩
  refine ⟨.ref a, rfl, a, .ref b, rfl, (la ha).1, ?_⟩
  refine ⟨.ref b, rfl, by rw [sizeLine_eq]; simp, fun p hp => ?_⟩
  have pa : a ≠ p := fun z => by rw [← z, ha] at hp; cases hp
  have pb : b ≠ p := fun z => by rw [← z, hb] at hp; cases hp
  have pc : c ≠ p := fun z => by rw [← z, hc] at hp; cases hp
  have ha1 : (upd H p (.lst [])) a = some (.dK (jarK b c sd k)) := by rw [upd_ne pa]; exact ha
  have hb1 : (upd H p (.lst [])) b = some (.lst (fs.map V.int)) := by rw [upd_ne pb]; exact hb
  have hc1 : (upd H p (.lst [])) c = some (.lst (gs.map V.int)) := by rw [upd_ne pc]; exact hc
  have hx1 : Ext H (upd H p (.lst [])) [a, b, c] := (Ext.refl H _).fresh hp
  refine ⟨.list (fs.map .int), .list [], .lst (SqL.of hb1) (ints_dpN fs), .lst (SqL.of upd_same) .nil, PySem.W.shaped_ints fs, by decide, ?_⟩
  generalize upd H p (.lst []) = H1 at ha1 hb1 hc1 hx1
  refine ⟨_, rfl, ?_⟩
  cases fs with
  | cons g fs =>
    have hne : (!PyData.eqv (.list ((g :: fs).map .int)) (.list [])) = true := by simp [PyData.eqv, PyData.eqvAll]
    rw [if_pos hne]
    refine ⟨.ref b, rfl, .inl ⟨rfl, _, SqL.of hb1⟩, b, _, 0, 0, _, rfl, rfl, hb1, by decide, by decide, by simp [seqIndex?], rfl, ?_⟩
    have ha2 : (upd H1 b (.lst (((g :: fs).map V.int).eraseIdx 0))) a = some (.dK (jarK b c sd k)) := by rw [upd_ne hab]; exact ha1
    have hc2 : (upd H1 b (.lst (((g :: fs).map V.int).eraseIdx 0))) c = some (.lst (gs.map V.int)) := by rw [upd_ne (Ne.symm hbc)]; exact hc1
    have hx2 : Ext H (upd H1 b (.lst (((g :: fs).map V.int).eraseIdx 0))) [a, b, c] := hx1.own (by simp)
    have hb2 : (upd H1 b (.lst (((g :: fs).map V.int).eraseIdx 0))) b = some (.lst (fs.map V.int)) := upd_same
    generalize upd H1 b (.lst (((g :: fs).map V.int).eraseIdx 0)) = H2 at ha2 hx2 hb2 hc2
    have fine := mod_fine (r := g) (m := m) (by omega)
    refine ⟨.int g, rfl, .int m, rfl, g, m, rfl, rfl, _, rfl, ?_⟩
    refine ite_d (fun hge => ?_) fun hge => ?_
    · refine ⟨.ref b, rfl, .inl ⟨rfl, _, SqL.of hb2⟩, .int g, rfl, .int m, rfl, g, m, rfl, rfl, hmW g, b, _, 0, _, rfl, rfl, hb2, (by rw [List.length_map, sizeLine_eq]; simp at hl; omega), by decide, by decide, ?_⟩
      refine ⟨.int g, rfl, .inl ⟨g, rfl, .int m, rfl, g, m, rfl, rfl, by omega, ?_⟩⟩
      refine fin _ _ fine.1 (.inl fine.2) (hx2.own (by simp)) ⟨a, b, c, g / m :: fs, gs, sd, k, rfl, rfl, ⟨hab, hac, hbc⟩, by rw [upd_ne hab]; exact ha2, upd_same, by rw [upd_ne (Ne.symm hbc)]; exact hc2, by simp at hl ⊢; omega, ⟨hg0, hg⟩, hk0, by omega⟩
    · refine ⟨.int g, rfl, .inl ⟨g, rfl, .int m, rfl, g, m, rfl, rfl, by omega, ?_⟩⟩
      exact fin _ _ fine.1 (.inl fine.2) hx2 ⟨a, b, c, fs, gs, sd, k, rfl, rfl, ⟨hab, hac, hbc⟩, ha2, hb2, hc2, by simp at hl; omega, ⟨hg0, hg⟩, hk0, by omega⟩
  | nil =>
    have hne : (!PyData.eqv (.list (([] : List Int).map .int)) (.list [])) = false := by simp [PyData.eqv, PyData.eqvAll]
    rw [hne, if_neg Bool.false_ne_true]
    refine ⟨.ref a, rfl, a, .int k, rfl, (la ha1).2.2.2, k, 1, rfl, rfl, ?_⟩
    refine ⟨.ref a, rfl, a, _, rfl, DPut.k (k := .inr "count") ha1 (by rw [sizeLine_eq]; exact Nat.le_of_ble_eq_true rfl), ?_⟩
    rw [show putK (jarK b c sd k) (Sum.inr (Str.ofString "count")) (V.int (k + 1)) = jarK b c sd (k + 1) from rfl]
    have ha2 : (upd H1 a (.dK (jarK b c sd (k + 1)))) a = some (.dK (jarK b c sd (k + 1))) := upd_same
    have hb2 : (upd H1 a (.dK (jarK b c sd (k + 1)))) b = some (.lst []) := by rw [upd_ne (Ne.symm hab)]; exact hb1
    have hc2 : (upd H1 a (.dK (jarK b c sd (k + 1)))) c = some (.lst (gs.map V.int)) := by rw [upd_ne (Ne.symm hac)]; exact hc1
    have hx2 : Ext H (upd H1 a (.dK (jarK b c sd (k + 1)))) [a, b, c] := hx1.own (by simp)
    generalize upd H1 a (.dK (jarK b c sd (k + 1))) = H2 at ha2 hx2 hb2 hc2
    refine ⟨.ref a, rfl, a, .int (k + 1), rfl, (la ha2).2.2.2, .ref a, rfl, a, .ref c, rfl, (la ha2).2.1, ?_⟩
    have hL : ((gs.length : Nat) : Int) > 0 := by omega
    have fx := mod_fine (r := k + 1) (m := ((gs.length : Nat) : Int)) (by omega)
    obtain ⟨g, hg2⟩ := atV_of fx.1 fx.2
    refine ⟨.int (k + 1), .ref c, rfl, ?_⟩
    refine ⟨.ref a, rfl, a, .int sd, rfl, (la ha2).2.2.1, .ref c, rfl, .int (k + 1), rfl, .inl ⟨k + 1, rfl, .ref c, rfl, .inl ⟨.ref c, gs.length, rfl, .inl ⟨_, SqL.of hc2, (List.length_map ..).symm⟩, k + 1, _, rfl, rfl, (by show (0 : Int) < _; omega), ?_⟩⟩⟩
    refine .inl ⟨c, _, _, .int g, rfl, rfl, SqL.of hc2, hg2, .inl ⟨g, rfl, 7919, g, rfl, rfl, .inl (by omega), sd, _, rfl, rfl, ?_⟩⟩
    refine ⟨.int (k + 1), rfl, 104729, k + 1, rfl, rfl, .inl (by omega), _, _, rfl, rfl, .inl ⟨_, rfl, _, _, rfl, rfl, (by show (0 : Int) < _; decide), ?_⟩⟩
    have b1 := mod_fine (r := sd + 7919 * g + 104729 * (k + 1)) (m := 4294967291) (by decide)
    dsimp only
    generalize (sd + 7919 * g + 104729 * (k + 1)) % 4294967291 = x1 at b1
    refine ⟨.int x1, rfl, x1, 22695477, rfl, rfl, .inl (by omega), .int (k + 1), rfl, .int (k + 1), rfl, k + 1, k + 1, rfl, rfl, .inl (by omega), _, _, rfl, rfl, _, _, rfl, rfl, .inl ⟨_, rfl, _, _, rfl, rfl, (by show (0 : Int) < _; decide), ?_⟩⟩
    have b2 := mod_fine (r := x1 * 22695477 + (k + 1) * (k + 1) + 1) (m := 4294967291) (by decide)
    dsimp only
    generalize (x1 * 22695477 + (k + 1) * (k + 1) + 1) % 4294967291 = x2 at b2
    refine ⟨.int x2, rfl, x2, 48271, rfl, rfl, .inl (by omega), .int x2, rfl, x2, 65536, rfl, rfl, ⟨by decide, by decide⟩, _, _, rfl, rfl, .inl ⟨_, rfl, _, _, rfl, rfl, (by show (0 : Int) < _; decide), ?_⟩⟩
    dsimp only
    generalize (x2 * 48271 + x2 / 65536) % 4294967279 = x3
    refine ⟨.int x3, rfl, x3, 1024, rfl, rfl, ⟨by decide, by decide⟩, .inl ⟨_, rfl, .int m, rfl, _, m, rfl, rfl, by omega, ?_⟩⟩
    have fine := mod_fine (r := x3 / 1024) (m := m) (by omega)
    exact fin _ _ fine.1 (.inl fine.2) hx2 ⟨a, b, c, [], gs, sd, k + 1, rfl, rfl, ⟨hab, hac, hbc⟩, ha2, hb2, hc2, by simp, ⟨hg0, hg⟩, by omega, by omega⟩
/-! ### _law_powers: level 1, io [False], slots ['many', 'found', 'turn'] -/
-- use: ⟨_, rfl, (by omega), ?_⟩
def G_law_powers : Dt.Spec := fun os Q => ∃ n : Nat, os = [.fr (.int n)] ∧ n ≤ 1000 ∧ Q (.fr (.lst (pis (powL n)))) [none]
def g_law_powers : DS := (gSeq (gSet 1 (gN mkLst (gCons (gC (.int 1)) gNil))) (gSeq (gFor (giRng1 (gCons (gVar 0) gNil)) (tgName 2) [2] (gExpr (gMeth upAppend (gVar 1) (gCons (gFz (gOp (lift2 mulO) (gC (.int 2)) (gOp ixR (gVar 1) (gNeg (gC (.int 1)))))) gNil)))) (gRet (gVar 1))))
theorem P_law_powers : ∀ os Q0, os.length = 1 → G_law_powers os Q0 → g_law_powers (rtD [false] Q0) (startE 3 os) := by
  rintro _ Q0 - ⟨n, rfl, hn, k⟩
  rw [show startE 3 [OV.fr (PyData.int n)] = [some (.fr (.int n)), none, none] from rfl]
  unfold g_law_powers
  (walk_at "dt go"; ((try rw [putAt_nil rfl]); (try dsimp only [back, List.set, wipeE])))
  refine rng1 (b62 (by omega) (by omega)) ?_
  rw [rangeD_ints]
  refine forL_inv (fun j ρ => ρ = [some (.fr (.int n)), some (.lst (pis (powL j))), none]) rfl ?_ ?_
  · rintro j x _ hx rfl K hK
    obtain ⟨turn, rfl, ht⟩ := ints_get hx
    obtain ⟨rfl, hj⟩ := rangeI_get ht
    have hj : j < 1000 := by omega
    have hl := powL_len j
    clear hx ht
    rw [powL_snoc] at hK
    (walk_at "dt go"; ((try rw [putAt_nil rfl]); (try dsimp only [back, List.set, wipeE])))
    refine ok_i (ix_e rfl rfl rfl (powL_last j)) ?_
    (walk_at "dt go"; ((try rw [putAt_nil rfl]); (try dsimp only [back, List.set, wipeE])))
    refine ok_i (upAppend_e (by rw [List.length_map, hl, sizeLine_eq]; omega)) ?_
    rw [show (2 : Int) * ((2 ^ j : Nat) : Int) = ((2 ^ (j + 1) : Nat) : Int) by rw [Nat.pow_succ]; omega]
    (walk_at "dt go"; ((try rw [putAt_nil rfl]); (try dsimp only [back, List.set, wipeE])))
    refine hK _ ?_
    rw [show pis (powL j ++ [((2 ^ (j + 1) : Nat) : Int)]) = pis (powL j) ++ [PyData.int ((2 ^ (j + 1) : Nat) : Int)] from List.map_append]
    rfl
  · rintro _ rfl
    rw [List.length_map, len_rangeI, show ((n : Int)).toNat = n by omega]
    (walk_at "dt go"; ((try rw [putAt_nil rfl]); (try dsimp only [back, List.set, wipeE])))
    exact k
local macro_rules | `(tactic| walk_at "dt use") => `(tactic| ((with_reducible refine (show G_law_powers _ _ from ?_)); refine ⟨_, rfl, (by omega), ?_⟩))
theorem ok_law_powers {P : Program} {w : World} {K : Fg} {mg : Str → Option Value} {base : Heap} {T : Tbl} (E : Facts K mg T w) : FnG P w K mg base CX0 1 E.a_law_powers E.d_law_powers ["many"] (spD K T 1 G_law_powers) :=
  fnD (g := g_law_powers) E.u_law_powers sc_law_powers T [false] rfl (by decide) (fun cdv A outer s H E0 vs hr hgd => by
    have hgd : (A.deeper (envOfC "_law_powers" (defScope s_law_powers) s.heap.objs.size E.a_law_powers cdv)).guards = some [] := hgd
    exact (db_cons (ds_set (i := 1) sc_law_powers.nd rfl (by first | exact Or.inl rfl | exact Or.inr rfl) (dv_lst (da_cons dv_int da_nil)) (noPinOf (by decide))) (db_cons (ds_for [2] PassesOwn.never rfl (di_range1 rfl E.z_range (da_cons (dn 0) da_nil)) (dg_name (i := 2) sc_law_powers.nd rfl (by first | exact Or.inl rfl | exact Or.inr rfl) (noPinOf (by decide))) (db_one (ds_expr (dv_meth PySem.F.plainAttrs_list PySem.F.slot_list_append PySem.F.type_list_append mt_append (mtl_append _) (dn 1) (da_cons (dv_fz (dv_op op_mulA (mulA_ok _) dv_int (dv_ix (dn 1) (dv_neg dv_int) (fun _ _ => rfl)))) da_nil))))) (db_one (ds_ret (dn 1)))))) P_law_powers
/-! ### _law_far_set: level 2, io [True, False], slots ['jar', 'many', 'picks', 'ends', 'items', 'small', 'wants_size', 'wants_sum', 'turn', 'item'] -/
def G_law_far_set : Dt.Spec := fun os Q => ∃ (n m : Nat), os = [.opq (jarC n), .fr (.int m)] ∧ n < 900000000000 ∧ (8 ≤ m ∧ m ≤ 1000) ∧ ∀ (n' : Nat) (R : List Nat), n' ≤ n + 10 → R ∈ setsE m → R.length ≤ 10 → Q (.cl (tI (Dt.cast R))) [some (.opq (jarC n')), none]
theorem srt_up {l : List Int} (h : l.Nodup) : (srt lti l).Pairwise (· < ·) := by
  have h1 := srt_sorted tot_lti l
  have h2 := (srt_perm lti l).nodup_iff.mpr h
  refine (h1.and (List.nodup_iff_pairwise_ne.mp h2)).imp fun {a b} h => ?_
  have := h.1
  have := h.2
  unfold lti at *
  simp at *
  omega
theorem sum_permI {l r : List Int} (h : l.Perm r) : l.sum = r.sum := by
  induction h with
  | nil => rfl
  | cons a _ ih => rw [List.sum_cons, List.sum_cons, ih]
  | swap a b l => simp only [List.sum_cons]; omega
  | trans _ _ h1 h2 => rw [h1, h2]
theorem set_of {m : Nat} (h2 : 2 ≤ m) {l : List Int} (nd : l.Nodup) (hb : ∀ z ∈ l, 0 ≤ z ∧ z < m) (hp : ((m : Int) + l.length) % 2 = 0) (he : l.sum % 2 = 0) (hz : ¬ ((0 : Int) ∈ l ∧ (m : Int) - 1 ∈ l)) : ∃ R ∈ setsE m, srtB false lti l = Dt.cast R ∧ R.length = l.length := by
  have p := srt_perm lti l
  have o : OddS m (srt lti l) := ⟨sub_range (srt_up nd) fun z hz => hb z (p.mem_iff.mp hz), by rw [p.length_eq]; exact hp, by rw [sum_permI p]; exact he, fun z => hz ⟨p.mem_iff.mp z.1, p.mem_iff.mp z.2⟩⟩
  obtain ⟨R, h, e⟩ := (setsE_odd h2).mp o
  refine ⟨R, h, e, ?_⟩
  rw [← p.length_eq, e]
  exact (List.length_map ..).symm
theorem far_ok {m : Nat} (h8 : 8 ≤ m) {l S : List Int} (nd : l.Nodup) (hb : ∀ z ∈ l, z = 0 ∨ 3 ≤ z ∧ z < m) (hz : ¬ ((0 : Int) ∈ l ∧ (m : Int) - 1 ∈ l)) (hl : l.length ≤ 7) (hS : S = [] ∨ S = [1] ∨ S = [2] ∨ S = [1, 2]) (hp : ((m : Int) + l.length + S.length) % 2 = 0) (he : (l.sum + S.sum) % 2 = 0) :
    ∃ R ∈ setsE m, srtB false lti (l ++ S) = Dt.cast R ∧ R.length ≤ 10 := by
  have hS2 : S.Nodup ∧ (∀ z ∈ S, z = 1 ∨ z = 2) ∧ S.length ≤ 2 := by
    rcases hS with rfl | rfl | rfl | rfl <;> decide
  have hz2 : ¬ ((0 : Int) ∈ l ++ S ∧ (m : Int) - 1 ∈ l ++ S) := fun q => hz ⟨by
    rcases List.mem_append.mp q.1 with z | z
    · exact z
    · have := hS2.2.1 _ z; omega, by
    rcases List.mem_append.mp q.2 with z | z
    · exact z
    · have := hS2.2.1 _ z; omega⟩
  obtain ⟨R, h, e, e2⟩ := set_of (m := m) (by omega) (l := l ++ S) (List.nodup_append.mpr ⟨nd, hS2.1, fun a ha b hb2 e => by have := hb a ha; have := hS2.2.1 b hb2; omega⟩) (fun z hz2 => by
    rcases List.mem_append.mp hz2 with q | q
    · have := hb z q; omega
    · have := hS2.2.1 z q; omega) (by rw [List.length_append]; omega) (by rw [List.sum_append]; exact he) hz2
  exact ⟨R, h, e, by rw [e2, List.length_append]; have := hS2.2.2; omega⟩
def g_law_far_set : DS := (gSeq (gSet 2 (gLc [8] (giRng1 (gCons (gCall G_law_draw 2 (gCons (gVar 0) (gCons (gC (.int 7)) gNil))) gNil)) (tgName 8) gYes (gFz (gOp (lift2 addO) (gC (.int 3)) (gCall G_law_draw 2 (gCons (gVar 0) (gCons (gFz (gOp (lift2 subO) (gVar 1) (gC (.int 3)))) gNil))))))) (gSeq (gSet 3 (gFz (gCall G_law_draw 2 (gCons (gVar 0) (gCons (gC (.int 3)) gNil))))) (gSeq (gSet 4 (gLc [9] (giAny (gFz (gSSA (gVar 2)))) (tgName 9) (gOr (gTst (gOp (dat2 (eqD true)) (gVar 9) (gOp (lift2 subO) (gVar 1) (gC (.int 1))))) (gTst (gOp (dat2 (eqD false)) (gVar 3) (gC (.int 1))))) (gVar 9))) (gSeq (gSet 4 (gFz (gOp (lift2 addO) (gIfE (gTst (gOp (dat2 (eqD false)) (gVar 3) (gC (.int 2)))) (gN mkLst (gCons (gC (.int 0)) gNil)) (gN mkLst gNil)) (gVar 4)))) (gSeq (gPar 6 7 (gCons (gFz (gOp (lift2 (intO cMod fun i j => i % j)) (gN (dat1 intD) (gCons (gOp (lift2 addO) (gVar 1) (gN lenR (gCons (gVar 4) gNil))) gNil)) (gC (.int 2)))) (gCons (gFz (gOp (lift2 (intO cMod fun i j => i % j)) (gN (dat1 intD) (gCons (gN (intsF fun is => some is.sum) (gCons (gVar 4) gNil)) gNil)) (gC (.int 2)))) gNil))) (gSeq (gSet 5 (gFz (gIfE (gTst (gOp (dat2 (eqD false)) (gN mkTup (gCons (gVar 6) (gCons (gVar 7) gNil))) (gN mkTup (gCons (gC (.int 0)) (gCons (gC (.int 1)) gNil))))) (gN mkLst (gCons (gC (.int 1)) (gCons (gC (.int 2)) gNil))) (gIfE (gTst (gOp (dat2 (eqD false)) (gVar 7) (gC (.int 1)))) (gN mkLst (gCons (gC (.int 1)) gNil)) (gIfE (gTst (gOp (dat2 (eqD false)) (gVar 6) (gC (.int 1)))) (gN mkLst (gCons (gC (.int 2)) gNil)) (gN mkLst gNil)))))) (gRet (gN tupR (gCons (gNR (srtR false) (gCons (gOp (lift2 addO) (gVar 4) (gVar 5)) gNil)) gNil)))))))))
theorem P_law_far_set : ∀ os Q0, os.length = 2 → G_law_far_set os Q0 → g_law_far_set (rtD [true, false] Q0) (startE 10 os) := by
  rintro _ Q0 - ⟨n, m, rfl, hn, ⟨h8, hm⟩, k⟩
  rw [show startE 10 [OV.opq (jarC n), OV.fr (PyData.int m)] = [some (.opq (jarC n)), some (.fr (.int m)), none, none, none, none, none, none, none, none] from rfl]
  unfold g_law_far_set
  (walk_at "dt go"; ((try rw [putAt_nil rfl]); (try dsimp only [back, List.set, wipeE])))
  refine ⟨n, 7, rfl, ⟨by omega, by omega, by omega⟩, fun r r0 r1 => ?_⟩
  obtain ⟨q, rfl, hq⟩ : ∃ q : Nat, r = q ∧ q ≤ 6 := ⟨r.toNat, by omega, by omega⟩
  clear r0 r1
  (walk_at "dt go"; ((try rw [putAt_nil rfl]); (try dsimp only [back, List.set, wipeE])))
  refine rng1 (b62 (by omega) (by omega)) ?_
  rw [rangeD_ints, Int.toNat_natCast]
  refine lcK_inv (fun k ρ acc => ∃ xs : List Int, ρ = [some (.opq (jarC (n + 1 + k))), some (.fr (.int m)), none, none, none, none, none, none, none, none] ∧ acc = xs.map .int ∧ xs.length = k ∧ ∀ x ∈ xs, 3 ≤ x ∧ x < m) ⟨[], rfl, rfl, rfl, fun _ h => nomatch h⟩ (small (m := 10) (by rw [List.length_map, len_rangeI]; omega)) ?_ ?_
  · rintro j x _ _ hx ⟨xs, rfl, rfl, hxl, hxs⟩ K1 K0 h1 h0
    have hj := (List.getElem?_eq_some_iff.mp hx).1
    rw [List.length_map, len_rangeI] at hj
    obtain ⟨i, rfl, hi⟩ := ints_get hx
    clear hx hi h0
    (walk_at "dt go"; ((try rw [putAt_nil rfl]); (try dsimp only [back, List.set, wipeE])))
    refine ⟨n + 1 + j, _, rfl, ⟨by omega, by omega, by omega⟩, fun r r0 r1 => ?_⟩
    (walk_at "dt go"; ((try rw [putAt_nil rfl]); (try dsimp only [back, List.set, wipeE])))
    refine h1 _ _ ⟨xs ++ [3 + r], rfl, by rw [List.map_append]; rfl, by rw [List.length_append, hxl]; rfl, fun x hx => ?_⟩
    rcases List.mem_append.mp hx with hx | hx
    · exact hxs x hx
    · rw [List.mem_singleton] at hx; omega
  · rintro _ _ ⟨xs, rfl, rfl, hxl, hxs⟩
    rw [List.length_map, len_rangeI] at hxl ⊢
    (walk_at "dt go"; ((try rw [putAt_nil rfl]); (try dsimp only [back, List.set, wipeE])))
    refine ⟨n + 1 + q, 3, rfl, ⟨by omega, by omega, by omega⟩, fun e e0 e1 => ?_⟩
    have hdl := ddF_len xs
    have hnd : (srt lti (ddF xs)).Nodup := (srt_up (nodup_ddF xs)).imp (fun h => by omega)
    have hin : ∀ x ∈ srt lti (ddF xs), 3 ≤ x ∧ x < m := fun x hx => hxs x (srt_ddF_mem.mp hx)
    have hsl := srt_ddF_len xs
    (walk_at "dt go"; ((try rw [putAt_nil rfl]); (try dsimp only [back, List.set, wipeE])))
    refine ⟨true, xs, rfl, by omega, by omega, ?_⟩
    generalize srt lti (ddF xs) = L at *
    (walk_at "dt go"; ((try rw [putAt_nil rfl]); (try dsimp only [back, List.set, wipeE])))
    refine lcK_fm [some (.opq (jarC (n + 1 + q + 1))), some (.fr (.int m)), some (.lst (pis xs)), some (.fr (.int e)), none, none, none, none, none, none] PyData.int (fun x => decide (x ≠ (m : Int) - 1) || decide (e = 1)) PyData.int L rfl (by omega) (fun x hx K1 K0 h1 h0 => ?_) ?_
    · (walk_at "dt go"; ((try rw [putAt_nil rfl]); (try dsimp only [back, List.set, wipeE])))
      refine ite_b (fun c => ?_) fun c => ?_
      · (walk_at "dt go"; ((try rw [putAt_nil rfl]); (try dsimp only [back, List.set, wipeE])))
        exact h1 (by rw [show decide (x ≠ (m : Int) - 1) = true from by simpa using c]; rfl) _ rfl
      · (walk_at "dt go"; ((try rw [putAt_nil rfl]); (try dsimp only [back, List.set, wipeE])))
        refine ite_b (fun c2 => ?_) fun c2 => ?_
        · (walk_at "dt go"; ((try rw [putAt_nil rfl]); (try dsimp only [back, List.set, wipeE])))
          exact h1 (by rw [c2, Bool.or_true]) _ rfl
        · (walk_at "dt go"; ((try rw [putAt_nil rfl]); (try dsimp only [back, List.set, wipeE])))
          exact h0 (by rw [c2, Bool.or_false]; simpa using c) _ rfl
    obtain ⟨I1, hI1⟩ : ∃ I1, I1 = L.filter fun x => decide (x ≠ (m : Int) - 1) || decide (e = 1) := ⟨_, rfl⟩
    rw [← hI1]
    have f1 : I1.Nodup := by rw [hI1]; exact hnd.sublist List.filter_sublist
    have f2 : I1.length ≤ 6 := by rw [hI1]; exact Nat.le_trans (List.length_filter_le _ _) (by omega)
    have f3 : ∀ x ∈ I1, (3 ≤ x ∧ x < m) ∧ (x = (m : Int) - 1 → e = 1) := fun x hx => by
      rw [hI1] at hx
      obtain ⟨h1, h2⟩ := List.mem_filter.mp hx
      refine ⟨hin x h1, fun z => ?_⟩
      rw [decide_eq_false (by simpa using z), Bool.false_or] at h2
      exact of_decide_eq_true h2
    clear hI1 hin hnd hsl hdl hxs
    walk_at "dt gi"
    ((try rw [putAt_nil rfl]); (try dsimp only [back, List.set, wipeE]))
    refine g_cut (fun _ r ρ => ∃ Z : List Int, r = .fr (.lst (pis Z)) ∧ (Z = [0] ∧ e = 2 ∨ Z = []) ∧ ρ = [some (.opq (jarC (n + 1 + q + 1))), some (.fr (.int m)), some (.lst (pis xs)), some (.fr (.int e)), some (.lst (pis I1)), none, none, none, none, none]) (fun K hK => ?_) ?_
    · (walk_at "dt go"; ((try rw [putAt_nil rfl]); (try dsimp only [back, List.set, wipeE])))
      refine ite_b (fun c => ?_) fun c => ?_
      · have c := of_decide_eq_true c
        (walk_at "dt go"; ((try rw [putAt_nil rfl]); (try dsimp only [back, List.set, wipeE])))
        exact hK _ _ _ ⟨[0], rfl, .inl ⟨rfl, by omega⟩, rfl⟩
      · (walk_at "dt go"; ((try rw [putAt_nil rfl]); (try dsimp only [back, List.set, wipeE])))
        exact hK _ _ _ ⟨[], rfl, .inr rfl, rfl⟩
    rintro _ _ _ ⟨Z, rfl, hZ, rfl⟩
    have hZl : Z.length ≤ 1 := by rcases hZ with ⟨rfl, _⟩ | rfl <;> decide
    (walk_at "dt go"; ((try rw [putAt_nil rfl]); (try dsimp only [back, List.set, wipeE])))
    refine opK_i (lift2_e rfl rfl (addL (a := pis Z) (b := pis I1) rfl rfl (by rw [List.length_map, List.length_map, sizeLine_eq]; omega))) ?_
    rw [show pis Z ++ pis I1 = pis (Z ++ I1) from List.map_append.symm]
    have i1 : (Z ++ I1).Nodup := by
      rcases hZ with ⟨rfl, _⟩ | rfl
      · exact List.nodup_cons.mpr ⟨fun h => by have := f3 0 h; omega, f1⟩
      · exact f1
    have i2 : (Z ++ I1).length ≤ 7 := by rw [List.length_append]; omega
    have i3 : ∀ x ∈ Z ++ I1, x = 0 ∨ 3 ≤ x ∧ x < m := fun x hx => by
      rcases List.mem_append.mp hx with h | h
      · rcases hZ with ⟨rfl, _⟩ | rfl
        · exact .inl (List.mem_singleton.mp h)
        · cases h
      · exact .inr (f3 x h).1
    have i4 : ¬ ((0 : Int) ∈ Z ++ I1 ∧ (m : Int) - 1 ∈ Z ++ I1) := fun ⟨h1, h2⟩ => by
      rcases hZ with ⟨rfl, he⟩ | rfl
      · rcases List.mem_append.mp h2 with h | h
        · have := List.mem_singleton.mp h; omega
        · have := (f3 _ h).2 rfl; omega
      · have := f3 0 h1; omega
    generalize Z ++ I1 = I2 at *
    clear f1 f2 f3 hZ hZl
    (walk_at "dt go"; ((try rw [putAt_nil rfl]); (try dsimp only [back, List.set, wipeE])))
    refine ok_i (sum_e (l := I2) rfl) ?_
    walk_at "dt gi"
    ((try rw [putAt_nil rfl]); (try dsimp only [back, List.set, wipeE]))
    rw [show (List.map PyData.int I2).length = I2.length from List.length_map ..]
    obtain ⟨a, ea, ha⟩ : ∃ a : Int, a = ((m : Int) + (I2.length : Nat)) % 2 ∧ (a = 0 ∨ a = 1) := ⟨_, rfl, by omega⟩
    obtain ⟨b, eb, hb⟩ : ∃ b : Int, b = I2.sum % 2 ∧ (b = 0 ∨ b = 1) := ⟨_, rfl, by omega⟩
    rw [← ea, ← eb]
    refine g_cut (fun _ r ρ => ∃ S : List Int, (S = [] ∨ S = [1] ∨ S = [2] ∨ S = [1, 2]) ∧ (a + (S.length : Nat)) % 2 = 0 ∧ (b + S.sum) % 2 = 0 ∧ r = .fr (.lst (pis S)) ∧ ρ = [some (.opq (jarC (n + 1 + q + 1))), some (.fr (.int m)), some (.lst (pis xs)), some (.fr (.int e)), some (.fr (.list (pis I2))), none, some (.fr (.int a)), some (.fr (.int b)), none, none]) (fun K hK => ?_) ?_
    · (walk_at "dt go"; ((try rw [putAt_nil rfl]); (try dsimp only [back, List.set, wipeE])))
      refine opK_i (dat2_e (d := .tuple (pis [a, b])) (e := .tuple (pis [0, 1])) rfl rfl (eq_t [a, b] [0, 1])) ?_
      rcases ha with rfl | rfl <;> rcases hb with rfl | rfl
      · (walk_at "dt go"; ((try rw [putAt_nil rfl]); (try dsimp only [back, List.set, wipeE])))
        exact hK _ _ _ ⟨[], .inl rfl, by decide, by decide, rfl, rfl⟩
      · (walk_at "dt go"; ((try rw [putAt_nil rfl]); (try dsimp only [back, List.set, wipeE])))
        exact hK _ _ _ ⟨[1, 2], .inr (.inr (.inr rfl)), by decide, by decide, rfl, rfl⟩
      · (walk_at "dt go"; ((try rw [putAt_nil rfl]); (try dsimp only [back, List.set, wipeE])))
        exact hK _ _ _ ⟨[2], .inr (.inr (.inl rfl)), by decide, by decide, rfl, rfl⟩
      · (walk_at "dt go"; ((try rw [putAt_nil rfl]); (try dsimp only [back, List.set, wipeE])))
        exact hK _ _ _ ⟨[1], .inr (.inl rfl), by decide, by decide, rfl, rfl⟩
    rintro _ _ _ ⟨S, hS, s1, s2, rfl, rfl⟩
    obtain ⟨R, hR, e1, e2⟩ := far_ok h8 (l := I2) (S := S) i1 i3 i4 i2 hS (by omega) (by omega)
    have hSl : S.length ≤ 2 := by rcases hS with rfl | rfl | rfl | rfl <;> decide
    (walk_at "dt go"; ((try rw [putAt_nil rfl]); (try dsimp only [back, List.set, wipeE])))
    refine opK_i (lift2_e rfl rfl (addL (a := pis I2) (b := pis S) rfl rfl (by rw [List.length_map, List.length_map, sizeLine_eq]; omega))) ?_
    rw [show pis I2 ++ pis S = pis (I2 ++ S) from List.map_append.symm]
    (walk_at "dt go"; ((try rw [putAt_nil rfl]); (try dsimp only [back, List.set, wipeE])))
    refine srt_n (ns := I2 ++ S) rfl ?_
    rw [e1]
    (walk_at "dt go"; ((try rw [putAt_nil rfl]); (try dsimp only [back, List.set, wipeE])))
    exact k _ R (by omega) hR e2
theorem ok_law_far_set {P : Program} {w : World} {K : Fg} {mg : Str → Option Value} {base : Heap} {T : Tbl} (E : Facts K mg T w) : FnG P w K mg base CX0 2 E.a_law_far_set E.d_law_far_set ["jar", "many"] (spD K T 2 G_law_far_set) :=
  fnD (g := g_law_far_set) E.u_law_far_set sc_law_far_set T [true, false] rfl (by decide) (fun cdv A outer s H E0 vs hr hgd => by
    have hgd : (A.deeper (envOfC "_law_far_set" (defScope s_law_far_set) s.heap.objs.size E.a_law_far_set cdv)).guards = some [] := hgd
    exact (db_cons (ds_setLc (i := 2) (own := [("turn", 8)]) (ts := [8]) rfl sc_law_far_set.nd rfl rfl (sw_true rfl rfl rfl (by decide +kernel)) (di_range1 rfl E.z_range (da_cons (dv_fn (ok_law_draw E) (hr.mono (j := 1) (by decide)) hgd rfl E.m_law_draw E.u_law_draw.kp (b_law_draw E) (da_cons (dn 0) (da_cons dv_int da_nil))) da_nil)) (blkOk_by (by rfl)) (fun _ _ _ _ _ => (dg_name (i := 8) sc_law_far_set.nd rfl (by first | exact Or.inl rfl | exact Or.inr rfl) (noPinOf (by decide)))) (fun _ _ _ _ _ => dts_nil) (fun _ _ _ _ _ => (dv_fz (dv_op op_addA (addA_ok _) dv_int (dv_fn (ok_law_draw E) (hr.mono (j := 1) (by decide)) hgd rfl E.m_law_draw E.u_law_draw.kp (b_law_draw E) (da_cons (dn 0) (da_cons (dv_fz (dv_op op_sub (sub_ok _) (dn 1) dv_int)) da_nil)))))) (noPinOf (by decide)) (by decide) (by intro i hi; exact noPinOf (by revert i; decide))) (db_cons (ds_set (i := 3) sc_law_far_set.nd rfl (by first | exact Or.inl rfl | exact Or.inr rfl) (dv_fz (dv_fn (ok_law_draw E) (hr.mono (j := 1) (by decide)) hgd rfl E.m_law_draw E.u_law_draw.kp (b_law_draw E) (da_cons (dn 0) (da_cons dv_int da_nil)))) (noPinOf (by decide))) (db_cons (ds_setLc (i := 4) (own := [("item", 9)]) (ts := [9]) rfl sc_law_far_set.nd rfl rfl (sw_true rfl rfl rfl (by decide +kernel)) (di_any (dv_fz (dv_sortSetA rfl rfl E.z_sorted rfl E.z_set (dn 2)))) (blkOk_by (by rfl)) (fun _ _ _ _ _ => (dg_name (i := 9) sc_law_far_set.nd rfl (by first | exact Or.inl rfl | exact Or.inr rfl) (noPinOf (by decide)))) (fun _ _ _ _ _ => (dts_one (DWv.t (dw_or (dt_cmp (op_neD (room_un hr _)) (ne_ok _) (dn 9) (dv_op op_sub (sub_ok _) (dn 1) dv_int)) (dw_or1 (dt_cmp (op_eqD (room_un hr _)) (eq_ok _) (dn 3) dv_int)))))) (fun _ _ _ _ _ => (dn 9)) (noPinOf (by decide)) (by decide) (by intro i hi; exact noPinOf (by revert i; decide))) (db_cons (ds_set (i := 4) sc_law_far_set.nd rfl (by first | exact Or.inl rfl | exact Or.inr rfl) (dv_fz (dv_op op_addA (addA_ok _) (dv_if (dt_cmp (op_eqD (room_un hr _)) (eq_ok _) (dn 3) dv_int) (dv_lst (da_cons dv_int da_nil)) (dv_lst da_nil)) (dn 4))) (noPinOf (by decide))) (db_cons (ds_par2 (i := 6) (j := 7) rfl sc_law_far_set.nd rfl rfl (by decide) (noPinOf (by decide)) (noPinOf (by decide)) rfl rfl (da_cons (dv_fz (dv_op op_mod (mod_ok _) (dv_callT call_int1 (int_ok _) rfl E.z_int (by decide +kernel) (da_cons (dv_op op_addA (addA_ok _) (dn 1) (dv_call call_lenA (len_ok _) rfl E.z_len (by decide +kernel) (da_cons (dn 4) da_nil))) da_nil)) dv_int)) (da_cons (dv_fz (dv_op op_mod (mod_ok _) (dv_callT call_int1 (int_ok _) rfl E.z_int (by decide +kernel) (da_cons (dv_call (call_sumA rfl) (sum_ok _) rfl E.z_sum (by decide +kernel) (da_cons (dn 4) da_nil)) da_nil)) dv_int)) da_nil))) (db_cons (ds_set (i := 5) sc_law_far_set.nd rfl (by first | exact Or.inl rfl | exact Or.inr rfl) (dv_fz (dv_if (dt_cmp (op_eqD (room_un hr _)) (eq_ok _) (dv_tup (da_cons (dn 6) (da_cons (dn 7) da_nil))) (dv_tup (da_cons dv_int (da_cons dv_int da_nil)))) (dv_lst (da_cons dv_int (da_cons dv_int da_nil))) (dv_if (dt_cmp (op_eqD (room_un hr _)) (eq_ok _) (dn 7) dv_int) (dv_lst (da_cons dv_int da_nil)) (dv_if (dt_cmp (op_eqD (room_un hr _)) (eq_ok _) (dn 6) dv_int) (dv_lst (da_cons dv_int da_nil)) (dv_lst da_nil))))) (noPinOf (by decide))) (db_one (ds_ret (dv_callT call_tupleP (tup_ok _) rfl E.z_tuple (by decide +kernel) (da_cons (dv_sorted (room_un hr _) rfl E.z_sorted (by decide +kernel) (da_cons (dv_op op_addA (addA_ok _) (dn 4) (dn 5)) da_nil)) da_nil))))))))))) P_law_far_set
/-! ### Taking.take: level 1, io [True, False], slots ['self', 'number'] -/
def G_Taking_take (C : Addr) : Dt.Spec := fun os Q => ∃ (m : Nat) (T : List Nat) (s t x : Nat), os = [takO C m T s t, .fr (.int x)] ∧ (s < 2 ∧ T.length ≤ 2000) ∧ Q (.cl .none) [some (takO C m (T ++ [x]) (1 - s) ((t + x) % 2)), none]
def g_Taking_take (C_Taking : Addr) : DS := (gSeq (gExpr (gMeth upAppend (gAtt C_Taking "taken" (gVar 0)) (gCons (gVar 1) gNil))) (gAsg (gN mkTup (gCons (gFz (gOp (lift2 subO) (gC (.int 1)) (gAtt C_Taking "size" (gVar 0)))) (gCons (gFz (gOp (lift2 (intO cMod fun i j => i % j)) (gOp (lift2 addO) (gAtt C_Taking "total" (gVar 0)) (gVar 1)) (gC (.int 2)))) gNil))) (tgTup 2 (tgsCons (gATg C_Taking "size" (gVar 0)) (tgsCons (gATg C_Taking "total" (gVar 0)) tgsNil)))))
theorem P_Taking_take (C : Addr) : ∀ os Q0, os.length = 2 → G_Taking_take C os Q0 → g_Taking_take C (rtD [true, false] Q0) (startE 2 os) := by
  rintro _ Q0 - ⟨m, T, s, t, x, rfl, ⟨hs, hT⟩, k⟩
  have hl : (cast T).length = T.length := List.length_map ..
  rw [show startE 2 [takO C m T s t, OV.fr (PyData.int x)] = [some (takO C m T s t), some (.fr (.int x))] from rfl]
  unfold g_Taking_take
  unfold takO at k ⊢
  (walk_at "dt go"; ((try rw [putAt_nil rfl]); (try dsimp only [back, List.set, wipeE])))
  refine ok_i (upAppend_e (by rw [List.length_map, hl, sizeLine_eq]; omega)) ?_
  rw [show (Dt.putAt [some (OV.ins C [("many", .fr (.int m)), ("powers", .fr (.list (pis (powL m)))), ("taken", .lst (pis (Dt.cast T))), ("size", .fr (.int s)), ("total", .fr (.int t))]), some (.fr (.int x))] 0 ([] ++ [PK.att "taken"]) (OV.lst (pis (Dt.cast T) ++ [PyData.int x]))) = [some (OV.ins C [("many", .fr (.int m)), ("powers", .fr (.list (pis (powL m)))), ("taken", .lst (pis (Dt.cast T) ++ [PyData.int x])), ("size", .fr (.int s)), ("total", .fr (.int t))]), some (.fr (.int x))] from rfl]
  (walk_at "dt go"; ((try rw [putAt_nil rfl]); (try dsimp only [back, List.set, wipeE])))
  rw [show (1 : Int) - s = ((1 - s : Nat) : Int) by omega, show ((t : Int) + x) % 2 = (((t + x) % 2 : Nat) : Int) by omega]
  rw [show pis (Dt.cast (T ++ [x])) = pis (Dt.cast T) ++ [PyData.int x] by unfold pis Dt.cast; rw [List.map_append, List.map_append]; rfl] at k
  exact k
theorem ok_Taking_take {P : Program} {w : World} {K : Fg} {mg : Str → Option Value} {base : Heap} {T : Tbl} (E : Facts K mg T w) : FnG P w K mg base CX0 1 E.a_Taking_take E.d_Taking_take ["self", "number"] (spD K T 2 (G_Taking_take E.cl_Taking)) :=
  fnD (g := (g_Taking_take E.cl_Taking)) E.u_Taking_take sc_Taking_take T [true, false] rfl (by decide) (fun cdv A outer s H E0 vs hr hgd => by
    have hgd : (A.deeper (envOfC "Taking.take" (defScope s_Taking_take) s.heap.objs.size E.a_Taking_take cdv)).guards = some [] := hgd
    exact (db_cons (ds_expr (dv_meth PySem.F.plainAttrs_list PySem.F.slot_list_append PySem.F.type_list_append mt_append (mtl_append _) (dv_att E.cc_Taking E.na_Taking_taken (dn 0)) (da_cons (dn 1) da_nil))) (db_one (ds_asg (dv_tup (da_cons (dv_fz (dv_op op_sub (sub_ok _) dv_int (dv_att E.cc_Taking E.na_Taking_size (dn 0)))) (da_cons (dv_fz (dv_op op_mod (mod_ok _) (dv_op op_addA (addA_ok _) (dv_att E.cc_Taking E.na_Taking_total (dn 0)) (dn 1)) dv_int)) da_nil))) (dg_tup rfl (dgs_cons (dg_att E.cc_Taking E.na_Taking_size (dn 0)) (dgs_cons (dg_att E.cc_Taking E.na_Taking_total (dn 0)) dgs_nil))))))) (P_Taking_take E.cl_Taking)
/-! ### is_integer: level 1, io [False], slots ['thing'] -/
-- use: ⟨_, rfl, ?_⟩
/-- whether an int that is no bool -/
def isInt (d : PyData) : Bool := match d with
  | .int _ => true
  | _ => false
theorem isT_int (d : PyData) : (isT "int" d && !(isT "bool" d)) = isInt d := by cases d <;> rfl
def G_is_integer : Dt.Spec := fun os Q => ∃ d : PyData, os = [.fr d] ∧ Q (.cl (.bool (isInt d))) [none]
def g_is_integer : DS := (gRet (gAndV (gIsi "int" (gVar 0)) (gNotV (gIsi "bool" (gVar 0)))))
theorem P_is_integer : ∀ os Q0, os.length = 1 → G_is_integer os Q0 → g_is_integer (rtD [false] Q0) (startE 1 os) := by
  rintro _ Q0 - ⟨d, rfl, k⟩
  unfold g_is_integer
  cases d <;> (walk_at "dt go"; exact k)
local macro_rules | `(tactic| walk_at "dt use") => `(tactic| ((with_reducible refine (show G_is_integer _ _ from ?_)); refine ⟨_, rfl, ?_⟩))
theorem ok_is_integer {P : Program} {w : World} {K : Fg} {mg : Str → Option Value} {base : Heap} {T : Tbl} (E : Facts K mg T w) : FnG P w K mg base CX0 1 E.a_is_integer E.d_is_integer ["thing"] (spD K T 1 G_is_integer) :=
  fnD (g := g_is_integer) E.u_is_integer sc_is_integer T [false] rfl (by decide) (fun cdv A outer s H E0 vs hr hgd => by
    have hgd : (A.deeper (envOfC "is_integer" (defScope s_is_integer) s.heap.objs.size E.a_is_integer cdv)).guards = some [] := hgd
    exact (db_one (ds_ret (dv_and (dv_isi (dn 0) rfl E.z_isinstance rfl E.z_int (by decide +kernel) (by simp)) (dv_one (dv_not (dv_isi (dn 0) rfl E.z_isinstance rfl E.z_bool (by decide +kernel) (by simp)))))))) P_is_integer
/-! ### is_rising: level 2, io [False, False], slots ['many', 'value', 'one', 'other', 'item'] -/
-- use: ⟨_, _, rfl, (by assumption), ?_⟩
def G_is_rising : Dt.Spec := fun os Q => ∃ (m : Int) (v : PyData), os = [.fr (.int m), .fr v] ∧ smT v ∧ Q (.cl (.bool (isLot m v))) [none, none]
def g_is_rising : DS := (gSeq (gIf (gOr (gNot (gTst (gIsi "tuple" (gVar 1)))) (gNot (gTst (gN (boolsF fun bs => bs.all id) (gCons (gLc [4] (giAny (gVar 1)) (tgName 4) gYes (gAndV (gCall G_is_integer 1 (gCons (gVar 4) gNil)) (gChain (lift2 (cmpO fun i j => decide (i ≤ j))) (lift2 (cmpO fun i j => decide (i < j))) (gC (.int 0)) (gVar 4) (gVar 0)))) gNil))))) (gRet (gC (.bool false))) gNext) (gRet (gN (boolsF fun bs => bs.all id) (gCons (gLc [2, 3] (giZip (gCons (gVar 1) (gCons (gFz (gSlice (gVar 1) (gPart (gC (.int 1))) gNoPart)) gNil))) (tgTup 2 (tgsCons (tgName 2) (tgsCons (tgName 3) tgsNil))) gYes (gOp (lift2 (cmpO fun i j => decide (i < j))) (gVar 2) (gVar 3))) gNil))))
def isInZ (m : Int) (d : PyData) : Bool := match d with
  | .int i => decide (0 ≤ i) && decide (i < m)
  | _ => false
def chainB : List Int → Bool
  | a :: b :: r => decide (a < b) && chainB (b :: r)
  | _ => true
theorem zip_ln : ∀ a b : List Int, zipD (a.map .int) (b.map .int) = (a.zip b).map lnD
  | [], _ => by simp [zipD]
  | _ :: _, [] => by simp [zipD]
  | x :: a, y :: b => by
    have ih := zip_ln a b
    unfold zipD at ih ⊢
    rw [List.map_cons, List.map_cons, List.zipWith_cons_cons, ih]
    rfl
theorem zip_chain : ∀ ns : List Int, ((ns.zip (ns.drop 1)).map fun p => decide (p.1 < p.2)).all id = chainB ns
  | [] => rfl
  | [_] => rfl
  | a :: b :: r => by
    have ih := zip_chain (b :: r)
    show (decide (a < b) && (((b :: r).zip ((b :: r).drop 1)).map fun p : Int × Int => decide (p.1 < p.2)).all id) = _
    rw [ih]
    rfl
theorem chain_ris {m : Int} : ∀ {ns : List Int} {a : Int}, (∀ n ∈ ns, 0 ≤ n ∧ n < m) → chainB (a :: ns) = risD m a (ns.map .int)
  | [], a, _ => rfl
  | b :: ns, a, h => by
    show (decide (a < b) && chainB (b :: ns)) = ((decide (a < b) && decide (b < m)) && risD m b (ns.map .int))
    rw [chain_ris fun n hn => h n (List.mem_cons_of_mem _ hn), decide_eq_true (h b List.mem_cons_self).2, Bool.and_true]
theorem chain_lot {m : Int} {ns : List Int} (h : ∀ n ∈ ns, 0 ≤ n ∧ n < m) : chainB ns = risD m (-1) (ns.map .int) := by
  cases ns with
  | nil => rfl
  | cons a ns =>
    show chainB (a :: ns) = ((decide (-1 < a) && decide (a < m)) && risD m a (ns.map .int))
    have := h a List.mem_cons_self
    rw [chain_ris fun n hn => h n (List.mem_cons_of_mem _ hn), decide_eq_true (p := -1 < a) (by omega), decide_eq_true this.2, Bool.true_and, Bool.true_and]
theorem P_is_rising : ∀ os Q0, os.length = 2 → G_is_rising os Q0 → g_is_rising (rtD [false, false] Q0) (startE 5 os) := by
  rintro _ Q0 - ⟨m, v, rfl, hs, k⟩
  unfold g_is_rising
  cases v with
  | tuple ds =>
    have hl : ds.length ≤ 1000000 := hs ds rfl
    (walk_at "dt go"; ((try rw [putAt_nil rfl]); (try dsimp only [back, List.set, wipeE])))
    refine lcK_pure [some (.fr (.int m)), some (.fr (.tuple ds)), none, none, none] (fun x => some (.bool (isInZ m x))) rfl (small (m := 1000000) hl) ?_ ?_
    · rintro x hx K1 K0 h1 h0
      cases x with
      | int i =>
        have h1 : ∀ ρ2 d, wipeE ρ2 [4] = _ → some (.bool (decide (0 ≤ i) && decide (i < m))) = some d → K1 ρ2 d := h1
        walk_at "dt go"
        (first | refine ite_d (fun c1 => ?_) fun c1 => ?_ | refine ite_nd (fun c1 => ?_) fun c1 => ?_ | refine ite_b (fun c1 => ?_) fun c1 => ?_)
        · rw [decide_eq_true (p := 0 ≤ i) c1] at h1
          walk_at "dt go"
          exact h1 _ _ rfl rfl
        · rw [decide_eq_false (p := 0 ≤ i) c1] at h1
          walk_at "dt go"
          exact h1 _ _ rfl rfl
      | _ =>
        walk_at "dt go"
        exact h1 _ _ rfl rfl
    have e0 : ds.filterMap (fun x => some (PyData.bool (isInZ m x))) = (ds.map (isInZ m)).map .bool := by
      rw [List.map_map]
      exact congrFun (List.filterMap_eq_map (f := (PyData.bool ∘ isInZ m))) ds
    rw [e0]
    (walk_at "dt go"; ((try rw [putAt_nil rfl]); (try dsimp only [back, List.set, wipeE])))
    refine bools_i rfl ?_
    (walk_at "dt go"; ((try rw [putAt_nil rfl]); (try dsimp only [back, List.set, wipeE])))
    refine ite_b (fun c => ?_) fun c => ?_
    · have hb : isLot m (.tuple ds) = false := by
        have c : (ds.map (isInZ m)).all id = false := by simpa using c
        rw [List.all_eq_false] at c
        obtain ⟨b, hb, nb⟩ := c
        obtain ⟨d, hd, rfl⟩ := List.mem_map.mp hb
        refine risD_bad hd fun i e z => nb ?_
        subst e
        show (decide (0 ≤ i) && decide (i < m)) = true
        rw [decide_eq_true (by omega), decide_eq_true z.2]; rfl
      rw [hb] at k
      (walk_at "dt go"; ((try rw [putAt_nil rfl]); (try dsimp only [back, List.set, wipeE])))
      exact k
    · have c : ∀ d ∈ ds, isInZ m d = true := by simpa using c
      obtain ⟨ns, rfl, hn⟩ := ints_of (P := fun i => 0 ≤ i ∧ i < m) (es := ds) fun d hd => by
        have := c d hd
        cases d with
        | int i =>
          have this : (decide (0 ≤ i) && decide (i < m)) = true := this
          rw [Bool.and_eq_true, decide_eq_true_eq, decide_eq_true_eq] at this
          exact ⟨i, rfl, this⟩
        | _ => cases this
      have k : Q0 (.cl (.bool (risD m (-1) (ns.map .int)))) [none, none] := k
      rw [← chain_lot hn] at k
      (walk_at "dt go"; ((try rw [putAt_nil rfl]); (try dsimp only [back, List.set, wipeE])))
      rw [cutD_from _ (by omega : (0 : Int) ≤ 1), ← List.map_drop, zip_ln]
      refine lcK_map _ lnD (fun p => .bool (decide (p.1 < p.2))) (ns.zip (ns.drop (1 : Int).toNat)) rfl (by rw [List.length_zip]; rw [List.length_map] at hl; omega) (fun p hp K1 K0 h => ?_) ?_
      · dsimp only [back, List.set, wipeE] at h
        unfold lnD
        (walk_at "dt go"; ((try rw [putAt_nil rfl]); (try dsimp only [back, List.set, wipeE])))
        exact h _ rfl
      rw [show (ns.zip (ns.drop (1 : Int).toNat)).map (fun p => PyData.bool (decide (p.1 < p.2))) = ((ns.zip (ns.drop 1)).map fun p => decide (p.1 < p.2)).map .bool by rw [List.map_map]; rfl]
      (walk_at "dt go"; ((try rw [putAt_nil rfl]); (try dsimp only [back, List.set, wipeE])))
      refine bools_i rfl ?_
      rw [zip_chain]
      (walk_at "dt go"; ((try rw [putAt_nil rfl]); (try dsimp only [back, List.set, wipeE])))
      exact k
  | _ =>
    walk_at "dt go"
    exact k
local macro_rules | `(tactic| walk_at "dt use") => `(tactic| ((with_reducible refine (show G_is_rising _ _ from ?_)); refine ⟨_, _, rfl, (by assumption), ?_⟩))
theorem ok_is_rising {P : Program} {w : World} {K : Fg} {mg : Str → Option Value} {base : Heap} {T : Tbl} (E : Facts K mg T w) : FnG P w K mg base CX0 2 E.a_is_rising E.d_is_rising ["many", "value"] (spD K T 2 G_is_rising) :=
  fnD (g := g_is_rising) E.u_is_rising sc_is_rising T [false, false] rfl (by decide) (fun cdv A outer s H E0 vs hr hgd => by
    have hgd : (A.deeper (envOfC "is_rising" (defScope s_is_rising) s.heap.objs.size E.a_is_rising cdv)).guards = some [] := hgd
    exact (db_cons (ds_if (DWv.t (dw_or (dt_not (dt_val (dv_isi (dn 1) rfl E.z_isinstance rfl E.z_tuple (by decide +kernel) (by simp)))) (dw_or1 (dt_not (dt_val (dv_call (cr_all rfl) (all_ok _) rfl E.z_all (by decide +kernel) (da_cons (dv_lc (own := [("item", 4)]) (ts := [4]) rfl sc_is_rising.nd (di_any (dn 1)) (blkOk_by (by rfl)) (fun _ _ _ _ _ => (dg_name (i := 4) sc_is_rising.nd rfl (by first | exact Or.inl rfl | exact Or.inr rfl) (noPinOf (by decide)))) (fun _ _ _ _ _ => dts_nil) (fun _ _ _ _ _ => (dv_and (dv_fn (ok_is_integer E) (hr.mono (j := 1) (by decide)) hgd rfl E.m_is_integer E.u_is_integer.kp (b_is_integer E) (da_cons (dn 4) da_nil)) (dv_one (dv_chain op_le (cmp_ok _ _) op_lt (cmp_ok _ _) dv_int (dn 4) (dn 0))))) (by decide) (by intro i hi; exact noPinOf (by revert i; decide))) da_nil))))))) (db_one (ds_ret dv_bool)) db_nil) (db_one (ds_ret (dv_call (cr_all rfl) (all_ok _) rfl E.z_all (by decide +kernel) (da_cons (dv_lc (own := [("one", 2), ("other", 3)]) (ts := [2, 3]) rfl sc_is_rising.nd (di_zip rfl E.z_zip (da_cons (dn 1) (da_cons (dv_fz (dv_slice (dn 1) (do_some dv_int) do_none)) da_nil))) (blkOk_by (by rfl)) (fun _ _ _ _ _ => (dg_tup rfl (dgs_cons (dg_name (i := 2) sc_is_rising.nd rfl (by first | exact Or.inl rfl | exact Or.inr rfl) (noPinOf (by decide))) (dgs_cons (dg_name (i := 3) sc_is_rising.nd rfl (by first | exact Or.inl rfl | exact Or.inr rfl) (noPinOf (by decide))) dgs_nil)))) (fun _ _ _ _ _ => dts_nil) (fun _ _ _ _ _ => (dv_cmp op_lt (cmp_ok _ _) (dn 2) (dn 3))) (by decide) (by intro i hi; exact noPinOf (by revert i; decide))) da_nil)))))) P_is_rising
/-! ### set_error: level 3, io [False, False], slots ['many', 'value'] -/
def G_set_error : Dt.Spec := fun os Q => ∃ (m : Int) (v : PyData), os = [.fr (.int m), .fr v] ∧ smT v ∧ Q (.cl (setE m v)) [none, none]
theorem one_list {ns : List Int} : Dt.cutD (ns.map PyData.int) none (some 1) = (ns.take 1).map PyData.int := by rw [cutD_to _ (by omega), List.map_take]; rfl
theorem take_one {ns : List Int} : ns.take 1 = [0] ↔ ns.head? = some 0 := by cases ns <;> simp
def g_set_error : DS := (gSeq (gIf (gNot (gTst (gCall G_is_rising 2 (gCons (gVar 0) (gCons (gVar 1) gNil))))) (gRet (gC (.str "form"))) gNext) (gSeq (gIf (gTst (gOp (dat2 (eqD false)) (gOp (lift2 (intO cMod fun i j => i % j)) (gOp (lift2 subO) (gVar 0) (gN lenR (gCons (gVar 1) gNil))) (gC (.int 2))) (gC (.int 1)))) (gRet (gC (.str "parity"))) gNext) (gSeq (gIf (gTst (gOp (dat2 (eqD false)) (gOp (lift2 (intO cMod fun i j => i % j)) (gN (intsF fun is => some is.sum) (gCons (gVar 1) gNil)) (gC (.int 2))) (gC (.int 1)))) (gRet (gC (.str "sum"))) gNext) (gRet (gIfE (gAnd (gTst (gOp (dat2 (eqD false)) (gSlice (gVar 1) gNoPart (gPart (gC (.int 1)))) (gN mkTup (gCons (gC (.int 0)) gNil)))) (gTst (gOp (dat2 (eqD false)) (gOp ixR (gVar 1) (gNeg (gC (.int 1)))) (gOp (lift2 subO) (gVar 0) (gC (.int 1)))))) (gC (.str "ends")) (gC .none))))))
theorem P_set_error : ∀ os Q0, os.length = 2 → G_set_error os Q0 → g_set_error (rtD [false, false] Q0) (startE 2 os) := by
  rintro _ Q0 - ⟨m, v, rfl, hs, k⟩
  unfold g_set_error
  (walk_at "dt go"; ((try rw [putAt_nil rfl]); (try dsimp only [back, List.set, wipeE])))
  cases hL : isLot m v with
  | false =>
    have e : setE m v = .str (Str.ofString "form") := by
      cases v with
      | tuple ds => exact setE_no hL
      | _ => rfl
    rw [e] at k
    (walk_at "dt go"; ((try rw [putAt_nil rfl]); (try dsimp only [back, List.set, wipeE])))
    exact k
  | true =>
    cases v with
    | tuple ds =>
      have hr : risD m (-1) ds = true := hL
      obtain ⟨ns, rfl, hn, hp⟩ := risD_ints hr
      rw [setE_yes hr] at k
      unfold setWrong at k
      have el : ((List.map PyData.int ns).length : Int) = (ns.length : Nat) := by rw [List.length_map]
      (walk_at "dt go"; ((try rw [putAt_nil rfl]); (try dsimp only [back, List.set, wipeE])))
      (first | refine ite_d (fun c => ?_) fun c => ?_ | refine ite_nd (fun c => ?_) fun c => ?_ | refine ite_b (fun c => ?_) fun c => ?_)
      · rw [if_pos (by rw [el] at c; omega)] at k
        (walk_at "dt go"; ((try rw [putAt_nil rfl]); (try dsimp only [back, List.set, wipeE])))
        exact k
      · rw [if_neg (by rw [el] at c; omega)] at k
        (walk_at "dt go"; ((try rw [putAt_nil rfl]); (try dsimp only [back, List.set, wipeE])))
        refine ok_i (sum_e (l := ns) rfl) ?_
        (walk_at "dt go"; ((try rw [putAt_nil rfl]); (try dsimp only [back, List.set, wipeE])))
        (first | refine ite_d (fun c2 => ?_) fun c2 => ?_ | refine ite_nd (fun c2 => ?_) fun c2 => ?_ | refine ite_b (fun c2 => ?_) fun c2 => ?_)
        · rw [if_pos (by omega)] at k
          (walk_at "dt go"; ((try rw [putAt_nil rfl]); (try dsimp only [back, List.set, wipeE])))
          exact k
        · rw [if_neg (by omega)] at k
          (walk_at "dt go"; ((try rw [putAt_nil rfl]); (try dsimp only [back, List.set, wipeE])))
          rw [one_list]
          refine opK_i (dat2_e (d := .tuple (pis (ns.take 1))) (e := .tuple (pis [0])) rfl rfl (eq_t _ _)) ?_
          (walk_at "dt go"; ((try rw [putAt_nil rfl]); (try dsimp only [back, List.set, wipeE])))
          (first | refine ite_d (fun c3 => ?_) fun c3 => ?_ | refine ite_nd (fun c3 => ?_) fun c3 => ?_ | refine ite_b (fun c3 => ?_) fun c3 => ?_)
          · have c3 := take_one.mp c3
            have hne : ns ≠ [] := fun z => by subst z; simp at c3
            obtain ⟨j, eb, el⟩ := last_ints hne
            rw [el, c3] at k
            (walk_at "dt go"; ((try rw [putAt_nil rfl]); (try dsimp only [back, List.set, wipeE])))
            refine ok_i (ix_e rfl rfl rfl eb) ?_
            (walk_at "dt go"; ((try rw [putAt_nil rfl]); (try dsimp only [back, List.set, wipeE])))
            (first | refine ite_d (fun c5 => ?_) fun c5 => ?_ | refine ite_nd (fun c5 => ?_) fun c5 => ?_ | refine ite_b (fun c5 => ?_) fun c5 => ?_)
            · rw [if_pos ⟨rfl, by rw [c5]⟩] at k
              (walk_at "dt go"; ((try rw [putAt_nil rfl]); (try dsimp only [back, List.set, wipeE])))
              exact k
            · rw [if_neg fun z => c5 (Option.some.inj z.2)] at k
              (walk_at "dt go"; ((try rw [putAt_nil rfl]); (try dsimp only [back, List.set, wipeE])))
              exact k
          · rw [if_neg fun z => c3 (take_one.mpr z.1)] at k
            (walk_at "dt go"; ((try rw [putAt_nil rfl]); (try dsimp only [back, List.set, wipeE])))
            exact k
    | _ => cases hL
theorem ok_set_error {P : Program} {w : World} {K : Fg} {mg : Str → Option Value} {base : Heap} {T : Tbl} (E : Facts K mg T w) : FnG P w K mg base CX0 3 E.a_set_error E.d_set_error ["many", "value"] (spD K T 2 G_set_error) :=
  fnD (g := g_set_error) E.u_set_error sc_set_error T [false, false] rfl (by decide) (fun cdv A outer s H E0 vs hr hgd => by
    have hgd : (A.deeper (envOfC "set_error" (defScope s_set_error) s.heap.objs.size E.a_set_error cdv)).guards = some [] := hgd
    exact (db_cons (ds_if (dt_not (dt_val (dv_fn (ok_is_rising E) (hr.mono (j := 2) (by decide)) hgd rfl E.m_is_rising E.u_is_rising.kp (b_is_rising E) (da_cons (dn 0) (da_cons (dn 1) da_nil))))) (db_one (ds_ret dv_str)) db_nil) (db_cons (ds_if (dt_cmp (op_eqD (room_un hr _)) (eq_ok _) (dv_op op_mod (mod_ok _) (dv_op op_sub (sub_ok _) (dn 0) (dv_call call_lenA (len_ok _) rfl E.z_len (by decide +kernel) (da_cons (dn 1) da_nil))) dv_int) dv_int) (db_one (ds_ret dv_str)) db_nil) (db_cons (ds_if (dt_cmp (op_eqD (room_un hr _)) (eq_ok _) (dv_op op_mod (mod_ok _) (dv_call (call_sumA rfl) (sum_ok _) rfl E.z_sum (by decide +kernel) (da_cons (dn 1) da_nil)) dv_int) dv_int) (db_one (ds_ret dv_str)) db_nil) (db_one (ds_ret (dv_if (DWv.t (dw_and (dt_cmp (op_eqD (room_un hr _)) (eq_ok _) (dv_slice (dn 1) do_none (do_some dv_int)) (dv_tup (da_cons dv_int da_nil))) (dw_and1 (dt_cmp (op_eqD (room_un hr _)) (eq_ok _) (dv_ix (dn 1) (dv_neg dv_int) (fun _ _ => rfl)) (dv_op op_sub (sub_ok _) (dn 0) dv_int))))) dv_str dv_none))))))) P_set_error
/-! ### doublings: level 1, io [False], slots ['many', 'found', 'turn'] -/
-- use: ⟨_, rfl, (by omega), ?_⟩
def G_doublings : Dt.Spec := fun os Q => ∃ n : Nat, os = [.fr (.int n)] ∧ n ≤ 1000 ∧ Q (.fr (.lst (pis (powL n)))) [none]
def g_doublings : DS := (gSeq (gSet 1 (gN mkLst (gCons (gC (.int 1)) gNil))) (gSeq (gFor (giRng1 (gCons (gVar 0) gNil)) (tgName 2) [2] (gExpr (gMeth upAppend (gVar 1) (gCons (gFz (gOp (lift2 mulO) (gC (.int 2)) (gOp ixR (gVar 1) (gNeg (gC (.int 1)))))) gNil)))) (gRet (gVar 1))))
theorem P_doublings : ∀ os Q0, os.length = 1 → G_doublings os Q0 → g_doublings (rtD [false] Q0) (startE 3 os) := by
  rintro _ Q0 - ⟨n, rfl, hn, k⟩
  rw [show startE 3 [OV.fr (PyData.int n)] = [some (.fr (.int n)), none, none] from rfl]
  unfold g_doublings
  (walk_at "dt go"; ((try rw [putAt_nil rfl]); (try dsimp only [back, List.set, wipeE])))
  refine rng1 (b62 (by omega) (by omega)) ?_
  rw [rangeD_ints]
  refine forL_inv (fun j ρ => ρ = [some (.fr (.int n)), some (.lst (pis (powL j))), none]) rfl ?_ ?_
  · rintro j x _ hx rfl K hK
    obtain ⟨turn, rfl, ht⟩ := ints_get hx
    obtain ⟨rfl, hj⟩ := rangeI_get ht
    have hj : j < 1000 := by omega
    have hl := powL_len j
    clear hx ht
    rw [powL_snoc] at hK
    (walk_at "dt go"; ((try rw [putAt_nil rfl]); (try dsimp only [back, List.set, wipeE])))
    refine ok_i (ix_e rfl rfl rfl (powL_last j)) ?_
    (walk_at "dt go"; ((try rw [putAt_nil rfl]); (try dsimp only [back, List.set, wipeE])))
    refine ok_i (upAppend_e (by rw [List.length_map, hl, sizeLine_eq]; omega)) ?_
    rw [show (2 : Int) * ((2 ^ j : Nat) : Int) = ((2 ^ (j + 1) : Nat) : Int) by rw [Nat.pow_succ]; omega]
    (walk_at "dt go"; ((try rw [putAt_nil rfl]); (try dsimp only [back, List.set, wipeE])))
    refine hK _ ?_
    rw [show pis (powL j ++ [((2 ^ (j + 1) : Nat) : Int)]) = pis (powL j) ++ [PyData.int ((2 ^ (j + 1) : Nat) : Int)] from List.map_append]
    rfl
  · rintro _ rfl
    rw [List.length_map, len_rangeI, show ((n : Int)).toNat = n by omega]
    (walk_at "dt go"; ((try rw [putAt_nil rfl]); (try dsimp only [back, List.set, wipeE])))
    exact k
local macro_rules | `(tactic| walk_at "dt use") => `(tactic| ((with_reducible refine (show G_doublings _ _ from ?_)); refine ⟨_, rfl, (by omega), ?_⟩))
theorem ok_doublings {P : Program} {w : World} {K : Fg} {mg : Str → Option Value} {base : Heap} {T : Tbl} (E : Facts K mg T w) : FnG P w K mg base CX0 1 E.a_doublings E.d_doublings ["many"] (spD K T 1 G_doublings) :=
  fnD (g := g_doublings) E.u_doublings sc_doublings T [false] rfl (by decide) (fun cdv A outer s H E0 vs hr hgd => by
    have hgd : (A.deeper (envOfC "doublings" (defScope s_doublings) s.heap.objs.size E.a_doublings cdv)).guards = some [] := hgd
    exact (db_cons (ds_set (i := 1) sc_doublings.nd rfl (by first | exact Or.inl rfl | exact Or.inr rfl) (dv_lst (da_cons dv_int da_nil)) (noPinOf (by decide))) (db_cons (ds_for [2] PassesOwn.never rfl (di_range1 rfl E.z_range (da_cons (dn 0) da_nil)) (dg_name (i := 2) sc_doublings.nd rfl (by first | exact Or.inl rfl | exact Or.inr rfl) (noPinOf (by decide))) (db_one (ds_expr (dv_meth PySem.F.plainAttrs_list PySem.F.slot_list_append PySem.F.type_list_append mt_append (mtl_append _) (dn 1) (da_cons (dv_fz (dv_op op_mulA (mulA_ok _) dv_int (dv_ix (dn 1) (dv_neg dv_int) (fun _ _ => rfl)))) da_nil))))) (db_one (ds_ret (dn 1)))))) P_doublings
/-! ### Taking.__init__: level 2, io [True, False], slots ['self', 'many'] -/
def G_Taking_init (C : Addr) : Dt.Spec := fun os Q => ∃ m : Nat, os = [.ins C [], .fr (.int m)] ∧ m ≤ 1000 ∧ Q (.cl .none) [some (takO C m [] (m % 2) 0), none]
def g_Taking_init (C_Taking : Addr) : DS := (gSeq (gASet C_Taking "many" (gVar 0) (gVar 1)) (gSeq (gASet C_Taking "powers" (gVar 0) (gFz (gCall G_doublings 1 (gCons (gVar 1) gNil)))) (gSeq (gASet C_Taking "taken" (gVar 0) (gN mkLst gNil)) (gSeq (gASet C_Taking "size" (gVar 0) (gFz (gOp (lift2 (intO cMod fun i j => i % j)) (gVar 1) (gC (.int 2))))) (gASet C_Taking "total" (gVar 0) (gC (.int 0)))))))
theorem P_Taking_init (C : Addr) : ∀ os Q0, os.length = 2 → G_Taking_init C os Q0 → g_Taking_init C (rtD [true, false] Q0) (startE 2 os) := by
  rintro _ Q0 - ⟨m, rfl, hm, k⟩
  rw [show startE 2 [OV.ins C [], OV.fr (PyData.int m)] = [some (.ins C []), some (.fr (.int m))] from rfl]
  unfold g_Taking_init
  (walk_at "dt go"; ((try rw [putAt_nil rfl]); (try dsimp only [back, List.set, wipeE])))
  refine asetK_i (i := 0) (p := []) (o := .fr (.int m)) rfl rfl rfl (Nat.le_of_ble_eq_true rfl) (ρ' := [some (.ins C [("many", .fr (.int m))]), some (.fr (.int m))]) rfl ?_
  (walk_at "dt go"; ((try rw [putAt_nil rfl]); (try dsimp only [back, List.set, wipeE])))
  refine asetK_i (i := 0) (p := []) (o := .fr (.list (pis (powL m)))) rfl rfl rfl (Nat.le_of_ble_eq_true rfl) (ρ' := [some (.ins C [("many", .fr (.int m)), ("powers", .fr (.list (pis (powL m))))]), some (.fr (.int m))]) rfl ?_
  (walk_at "dt go"; ((try rw [putAt_nil rfl]); (try dsimp only [back, List.set, wipeE])))
  refine asetK_i (i := 0) (p := []) (o := .lst []) rfl rfl rfl (Nat.le_of_ble_eq_true rfl) (ρ' := [some (.ins C [("many", .fr (.int m)), ("powers", .fr (.list (pis (powL m)))), ("taken", .lst [])]), some (.fr (.int m))]) rfl ?_
  (walk_at "dt go"; ((try rw [putAt_nil rfl]); (try dsimp only [back, List.set, wipeE])))
  refine asetK_i (i := 0) (p := []) (o := .fr (.int ((m : Int) % 2))) rfl rfl rfl (Nat.le_of_ble_eq_true rfl) (ρ' := [some (.ins C [("many", .fr (.int m)), ("powers", .fr (.list (pis (powL m)))), ("taken", .lst []), ("size", .fr (.int ((m : Int) % 2)))]), some (.fr (.int m))]) rfl ?_
  (walk_at "dt go"; ((try rw [putAt_nil rfl]); (try dsimp only [back, List.set, wipeE])))
  refine asetK_i (i := 0) (p := []) (o := .fr (.int 0)) rfl rfl rfl (Nat.le_of_ble_eq_true rfl) (ρ' := [some (.ins C [("many", .fr (.int m)), ("powers", .fr (.list (pis (powL m)))), ("taken", .lst []), ("size", .fr (.int ((m : Int) % 2))), ("total", .fr (.int 0))]), some (.fr (.int m))]) rfl ?_
  rw [show (m : Int) % 2 = ((m % 2 : Nat) : Int) by omega]
  (walk_at "dt go"; ((try rw [putAt_nil rfl]); (try dsimp only [back, List.set, wipeE])))
  exact k
theorem ok_Taking_init {P : Program} {w : World} {K : Fg} {mg : Str → Option Value} {base : Heap} {T : Tbl} (E : Facts K mg T w) : FnG P w K mg base CX0 2 E.a_Taking_init E.d_Taking_init ["self", "many"] (spD K T 2 (G_Taking_init E.cl_Taking)) :=
  fnD (g := (g_Taking_init E.cl_Taking)) E.u_Taking_init sc_Taking_init T [true, false] rfl (by decide) (fun cdv A outer s H E0 vs hr hgd => by
    have hgd : (A.deeper (envOfC "Taking.__init__" (defScope s_Taking_init) s.heap.objs.size E.a_Taking_init cdv)).guards = some [] := hgd
    exact (db_cons (ds_aset E.cc_Taking E.na_Taking_many (dn 0) (dn 1)) (db_cons (ds_aset E.cc_Taking E.na_Taking_powers (dn 0) (dv_fz (dv_fn (ok_doublings E) (hr.mono (j := 1) (by decide)) hgd rfl E.m_doublings E.u_doublings.kp (b_doublings E) (da_cons (dn 1) da_nil)))) (db_cons (ds_aset E.cc_Taking E.na_Taking_taken (dn 0) (dv_lst da_nil)) (db_cons (ds_aset E.cc_Taking E.na_Taking_size (dn 0) (dv_fz (dv_op op_mod (mod_ok _) (dn 1) dv_int))) (db_one (ds_aset E.cc_Taking E.na_Taking_total (dn 0) dv_int))))))) (P_Taking_init E.cl_Taking)
/-! ### Taking.is_set: level 1, io [True], slots ['self'] -/
def G_Taking_is_set (C : Addr) : Dt.Spec := fun os Q => ∃ (m : Nat) (T : List Nat) (s t : Nat), os = [takO C m T s t] ∧ Q (.cl (.bool (decide (s = 0 ∧ t = 0)))) [some (takO C m T s t)]
def g_Taking_is_set (C_Taking : Addr) : DS := (gRet (gAndV (gOp (dat2 (eqD false)) (gAtt C_Taking "size" (gVar 0)) (gC (.int 0))) (gOp (dat2 (eqD false)) (gAtt C_Taking "total" (gVar 0)) (gC (.int 0)))))
theorem P_Taking_is_set (C : Addr) : ∀ os Q0, os.length = 1 → G_Taking_is_set C os Q0 → g_Taking_is_set C (rtD [true] Q0) (startE 1 os) := by
  rintro _ Q0 - ⟨m, T, s, t, rfl, k⟩
  rw [show startE 1 [takO C m T s t] = [some (takO C m T s t)] from rfl]
  unfold g_Taking_is_set
  unfold takO at k ⊢
  (walk_at "dt go"; ((try rw [putAt_nil rfl]); (try dsimp only [back, List.set, wipeE])))
  refine ite_b (fun c => ?_) fun c => ?_
  · have c := of_decide_eq_true c
    (walk_at "dt go"; ((try rw [putAt_nil rfl]); (try dsimp only [back, List.set, wipeE])))
    rw [show decide (s = 0 ∧ t = 0) = decide ((t : Int) = 0) from decide_eq_decide.mpr ⟨fun h => by omega, fun h => ⟨by omega, by omega⟩⟩] at k
    exact k
  · have c := of_decide_eq_false c
    rw [show decide (s = 0 ∧ t = 0) = false from decide_eq_false (by omega)] at k
    (walk_at "dt go"; ((try rw [putAt_nil rfl]); (try dsimp only [back, List.set, wipeE])))
    exact k
theorem ok_Taking_is_set {P : Program} {w : World} {K : Fg} {mg : Str → Option Value} {base : Heap} {T : Tbl} (E : Facts K mg T w) : FnG P w K mg base CX0 1 E.a_Taking_is_set E.d_Taking_is_set ["self"] (spD K T 1 (G_Taking_is_set E.cl_Taking)) :=
  fnD (g := (g_Taking_is_set E.cl_Taking)) E.u_Taking_is_set sc_Taking_is_set T [true] rfl (by decide) (fun cdv A outer s H E0 vs hr hgd => by
    have hgd : (A.deeper (envOfC "Taking.is_set" (defScope s_Taking_is_set) s.heap.objs.size E.a_Taking_is_set cdv)).guards = some [] := hgd
    exact (db_one (ds_ret (dv_and (dv_cmp (op_eqD (room_un hr _)) (eq_ok _) (dv_att E.cc_Taking E.na_Taking_size (dn 0)) dv_int) (dv_one (dv_cmp (op_eqD (room_un hr _)) (eq_ok _) (dv_att E.cc_Taking E.na_Taking_total (dn 0)) dv_int)))))) (P_Taking_is_set E.cl_Taking)
/-! ### Taking.top_behind: level 1, io [True, False], slots ['self', 'number'] -/
def G_Taking_top_behind (C : Addr) : Dt.Spec := fun os Q => ∃ (m : Nat) (T : List Nat) (s t x : Nat), os = [takO C m T s t, .fr (.int x)] ∧ (2 ≤ m ∧ m ≤ 1000 ∧ T.length ≤ 2000) ∧ Q (.cl (.int ((bndN m T x : Int) - 1))) [some (takO C m T s t), none]
def g_Taking_top_behind (C_Taking : Addr) : DS := (gRet (gIfE (gOr (gTst (gOp (dat2 (eqD false)) (gVar 1) (gC (.int 0)))) (gTst (gOp (dat2 (eqD false)) (gSlice (gAtt C_Taking "taken" (gVar 0)) gNoPart (gPart (gC (.int 1)))) (gN mkLst (gCons (gC (.int 0)) gNil))))) (gOp (lift2 subO) (gAtt C_Taking "many" (gVar 0)) (gC (.int 2))) (gOp (lift2 subO) (gAtt C_Taking "many" (gVar 0)) (gC (.int 1)))))
theorem take_head (T : List Nat) : (cast T).take 1 = [0] ↔ T.head? = some 0 := by
  cases T with
  | nil => simp [Dt.cast]
  | cons a l => rw [cast_cons]; simp
theorem P_Taking_top_behind (C : Addr) : ∀ os Q0, os.length = 2 → G_Taking_top_behind C os Q0 → g_Taking_top_behind C (rtD [true, false] Q0) (startE 2 os) := by
  rintro _ Q0 - ⟨m, T, s, t, x, rfl, ⟨h2, hm, hT⟩, k⟩
  have hl : (cast T).length = T.length := List.length_map ..
  rw [show startE 2 [takO C m T s t, OV.fr (PyData.int x)] = [some (takO C m T s t), some (.fr (.int x))] from rfl]
  unfold g_Taking_top_behind
  unfold takO at k ⊢
  unfold bndN at k
  (walk_at "dt go"; ((try rw [putAt_nil rfl]); (try dsimp only [back, List.set, wipeE])))
  refine ite_b (fun c => ?_) fun c => ?_
  · have c := of_decide_eq_true c
    rw [if_pos (Or.inl (by omega))] at k
    (walk_at "dt go"; ((try rw [putAt_nil rfl]); (try dsimp only [back, List.set, wipeE])))
    rw [show (m : Int) - 2 = ((m - 1 : Nat) : Int) - 1 by omega]
    exact k
  · have c := of_decide_eq_false c
    (walk_at "dt go"; ((try rw [putAt_nil rfl]); (try dsimp only [back, List.set, wipeE])))
    refine opK_i (dat2_e (d := .list (pis ((Dt.cast T).take 1))) (e := .list (pis [0])) (by rw [show Dt.cutD (pis (Dt.cast T)) none (some 1) = (pis (Dt.cast T)).take 1 from cut_take (pis (Dt.cast T)) 1]; unfold pis; rw [List.map_take]; rfl) rfl (eq_l _ _)) ?_
    (walk_at "dt go"; ((try rw [putAt_nil rfl]); (try dsimp only [back, List.set, wipeE])))
    refine ite_b (fun c2 => ?_) fun c2 => ?_
    · have c2 := (take_head T).mp (of_decide_eq_true c2)
      rw [if_pos (Or.inr c2)] at k
      (walk_at "dt go"; ((try rw [putAt_nil rfl]); (try dsimp only [back, List.set, wipeE])))
      rw [show (m : Int) - 2 = ((m - 1 : Nat) : Int) - 1 by omega]
      exact k
    · have c2 := fun z => of_decide_eq_false c2 ((take_head T).mpr z)
      rw [if_neg (fun z => z.elim (fun z => c (by omega)) c2)] at k
      (walk_at "dt go"; ((try rw [putAt_nil rfl]); (try dsimp only [back, List.set, wipeE])))
      exact k
theorem ok_Taking_top_behind {P : Program} {w : World} {K : Fg} {mg : Str → Option Value} {base : Heap} {T : Tbl} (E : Facts K mg T w) : FnG P w K mg base CX0 1 E.a_Taking_top_behind E.d_Taking_top_behind ["self", "number"] (spD K T 2 (G_Taking_top_behind E.cl_Taking)) :=
  fnD (g := (g_Taking_top_behind E.cl_Taking)) E.u_Taking_top_behind sc_Taking_top_behind T [true, false] rfl (by decide) (fun cdv A outer s H E0 vs hr hgd => by
    have hgd : (A.deeper (envOfC "Taking.top_behind" (defScope s_Taking_top_behind) s.heap.objs.size E.a_Taking_top_behind cdv)).guards = some [] := hgd
    exact (db_one (ds_ret (dv_if (DWv.t (dw_or (dt_cmp (op_eqD (room_un hr _)) (eq_ok _) (dn 1) dv_int) (dw_or1 (dt_cmp (op_eqD (room_un hr _)) (eq_ok _) (dv_slice (dv_att E.cc_Taking E.na_Taking_taken (dn 0)) do_none (do_some dv_int)) (dv_lst (da_cons dv_int da_nil)))))) (dv_op op_sub (sub_ok _) (dv_att E.cc_Taking E.na_Taking_many (dn 0)) dv_int) (dv_op op_sub (sub_ok _) (dv_att E.cc_Taking E.na_Taking_many (dn 0)) dv_int))))) (P_Taking_top_behind E.cl_Taking)
/-! ### lots: level 1, io [False, False, False], slots ['powers', 'size', 'parity'] -/
-- use: ⟨_, _, _, rfl, (by omega), (by omega), (by omega), ?_⟩
def G_lots : Dt.Spec := fun os Q => ∃ (n k p : Nat), os = [.fr (.list (pis (powL n))), .fr (.int k), .fr (.int p)] ∧ n ≤ 1000 ∧ k ≤ n ∧ p < 2 ∧ Q (.cl (.int (lotN k p))) [none, none, none]
def g_lots : DS := (gSeq (gIf (gTst (gOp (dat2 (eqD false)) (gVar 1) (gC (.int 0)))) (gRet (gOp (lift2 subO) (gC (.int 1)) (gVar 2))) gNext) (gRet (gOp ixR (gVar 0) (gOp (lift2 subO) (gVar 1) (gC (.int 1))))))
theorem P_lots : ∀ os Q0, os.length = 3 → G_lots os Q0 → g_lots (rtD [false, false, false] Q0) (startE 3 os) := by
  rintro _ Q0 - ⟨n, k, p, rfl, hn, hk, hp, h⟩
  rw [show startE 3 [OV.fr (.list (pis (powL n))), OV.fr (PyData.int k), OV.fr (PyData.int p)] = [some (.fr (.list (pis (powL n)))), some (.fr (.int k)), some (.fr (.int p))] from rfl]
  unfold g_lots
  unfold lotN at h
  (walk_at "dt go"; ((try rw [putAt_nil rfl]); (try dsimp only [back, List.set, wipeE])))
  refine ite_b (fun c => ?_) fun c => ?_
  · have c := of_decide_eq_true c
    rw [if_pos (by omega)] at h
    (walk_at "dt go"; ((try rw [putAt_nil rfl]); (try dsimp only [back, List.set, wipeE])))
    rw [show (1 : Int) - p = ((1 - p : Nat) : Int) by omega]
    exact h
  · have c := of_decide_eq_false c
    rw [if_neg (by omega)] at h
    (walk_at "dt go"; ((try rw [putAt_nil rfl]); (try dsimp only [back, List.set, wipeE])))
    rw [show (k : Int) - 1 = ((k - 1 : Nat) : Int) by omega]
    refine ok_i (ix_e rfl rfl rfl (powL_at (by omega))) ?_
    (walk_at "dt go"; ((try rw [putAt_nil rfl]); (try dsimp only [back, List.set, wipeE])))
    exact h
local macro_rules | `(tactic| walk_at "dt use") => `(tactic| ((with_reducible refine (show G_lots _ _ from ?_)); refine ⟨_, _, _, rfl, (by omega), (by omega), (by omega), ?_⟩))
theorem ok_lots {P : Program} {w : World} {K : Fg} {mg : Str → Option Value} {base : Heap} {T : Tbl} (E : Facts K mg T w) : FnG P w K mg base CX0 1 E.a_lots E.d_lots ["powers", "size", "parity"] (spD K T 3 G_lots) :=
  fnD (g := g_lots) E.u_lots sc_lots T [false, false, false] rfl (by decide) (fun cdv A outer s H E0 vs hr hgd => by
    have hgd : (A.deeper (envOfC "lots" (defScope s_lots) s.heap.objs.size E.a_lots cdv)).guards = some [] := hgd
    exact (db_cons (ds_if (dt_cmp (op_eqD (room_un hr _)) (eq_ok _) (dn 1) dv_int) (db_one (ds_ret (dv_op op_sub (sub_ok _) dv_int (dn 2)))) db_nil) (db_one (ds_ret (dv_ix (dn 0) (dv_op op_sub (sub_ok _) (dn 1) dv_int) (fun _ _ => rfl)))))) P_lots
/-! ### Taking.begun_with: level 2, io [True, False], slots ['self', 'number', 'top', 'odds', 'evens', 'size', 'total'] -/
def G_Taking_begun_with (C : Addr) : Dt.Spec := fun os Q => ∃ (m : Nat) (T : List Nat) (s t x : Nat), os = [takO C m T s t, .fr (.int x)] ∧ (2 ≤ m ∧ m ≤ 1000 ∧ T.length ≤ 2000) ∧ (s < 2 ∧ t < 2) ∧ Q (.cl (.int (begN m T x s t))) [some (takO C m T s t), none]
def g_Taking_begun_with (C_Taking : Addr) : DS := (gSeq (gSet 2 (gFz (gMethC C_Taking "top_behind" (G_Taking_top_behind C_Taking) 2 (gVar 0) (gCons (gVar 1) gNil)))) (gSeq (gIf (gTst (gOp (lift2 (cmpO fun i j => decide (j < i))) (gVar 1) (gVar 2))) (gRet (gC (.int 0))) gNext) (gSeq (gSet 3 (gFz (gOp (lift2 subO) (gOp (lift2 (intO cDiv fun i j => i / j)) (gOp (lift2 addO) (gVar 2) (gC (.int 1))) (gC (.int 2))) (gOp (lift2 (intO cDiv fun i j => i / j)) (gOp (lift2 addO) (gVar 1) (gC (.int 1))) (gC (.int 2)))))) (gSeq (gSet 4 (gFz (gOp (lift2 subO) (gOp (lift2 subO) (gVar 2) (gVar 1)) (gVar 3)))) (gSeq (gPar 5 6 (gCons (gFz (gOp (lift2 subO) (gC (.int 1)) (gAtt C_Taking "size" (gVar 0)))) (gCons (gFz (gOp (lift2 (intO cMod fun i j => i % j)) (gOp (lift2 addO) (gAtt C_Taking "total" (gVar 0)) (gVar 1)) (gC (.int 2)))) gNil))) (gRet (gOp (lift2 (intO cMulW fun i j => i * j)) (gCall G_lots 3 (gCons (gAtt C_Taking "powers" (gVar 0)) (gCons (gVar 3) (gCons (gVar 6) gNil)))) (gCall G_lots 3 (gCons (gAtt C_Taking "powers" (gVar 0)) (gCons (gVar 4) (gCons (gFz (gOp (lift2 (intO cMod fun i j => i % j)) (gOp (lift2 addO) (gVar 5) (gVar 6)) (gC (.int 2)))) gNil)))))))))))
theorem P_Taking_begun_with (C : Addr) : ∀ os Q0, os.length = 2 → G_Taking_begun_with C os Q0 → g_Taking_begun_with C (rtD [true, false] Q0) (startE 7 os) := by
  rintro _ Q0 - ⟨m, T, s, t, x, rfl, ⟨h2, hm, hT⟩, ⟨hs, ht⟩, k⟩
  rw [show startE 7 [takO C m T s t, OV.fr (PyData.int x)] = [some (takO C m T s t), some (.fr (.int x)), none, none, none, none, none] from rfl]
  unfold g_Taking_begun_with
  (walk_at "dt go"; ((try rw [putAt_nil rfl]); (try dsimp only [back, List.set, wipeE])))
  refine ⟨m, T, s, t, x, rfl, ⟨h2, by omega, hT⟩, ?_⟩
  (walk_at "dt go"; ((try rw [putAt_nil rfl]); (try dsimp only [back, List.set, wipeE])))
  have hb : bndN m T x ≤ m ∧ m - 1 ≤ bndN m T x := by unfold bndN; split <;> omega
  unfold begN at k
  refine ite_b (fun c => ?_) fun c => ?_
  · have c := of_decide_eq_true c
    rw [if_neg (by omega)] at k
    (walk_at "dt go"; ((try rw [putAt_nil rfl]); (try dsimp only [back, List.set, wipeE])))
    exact k
  · have c := of_decide_eq_false c
    rw [if_pos (by omega)] at k
    generalize bndN m T x = b at *
    have hO : oddN (b - (x + 1)) (x + 1) = b / 2 - (x + 1) / 2 := by unfold oddN; rw [show x + 1 + (b - (x + 1)) = b by omega]
    unfold cntN at k
    rw [hO] at k
    have hlot : ∀ i p, i ≤ 1000 → lotN i p < 2 ^ 2000 := fun i p hi => by
      unfold lotN
      split
      · exact Nat.lt_of_le_of_lt (Nat.sub_le 1 p) (Nat.lt_of_lt_of_le (by omega : 1 < 2 ^ 1) (Nat.pow_le_pow_right (by omega) (by omega)))
      · exact Nat.pow_lt_pow_right (by omega) (by omega)
    (walk_at "dt go"; ((try rw [putAt_nil rfl]); (try dsimp only [back, List.set, wipeE])))
    rw [show ((b : Int) - 1 + 1) / 2 - ((x : Int) + 1) / 2 = ((b / 2 - (x + 1) / 2 : Nat) : Int) by omega, show ((t : Int) + x) % 2 = (((t + x) % 2 : Nat) : Int) by omega]
    refine ⟨m, b / 2 - (x + 1) / 2, (t + x) % 2, rfl, by omega, by omega, by omega, ?_⟩
    (walk_at "dt go"; ((try rw [putAt_nil rfl]); (try dsimp only [back, List.set, wipeE])))
    rw [show (b : Int) - 1 - x - ((b / 2 - (x + 1) / 2 : Nat) : Int) = ((b - (x + 1) - (b / 2 - (x + 1) / 2) : Nat) : Int) by omega, show ((1 : Int) - s + (((t + x) % 2 : Nat) : Int)) % 2 = (((1 - s + (t + x) % 2) % 2 : Nat) : Int) by omega]
    refine ⟨m, b - (x + 1) - (b / 2 - (x + 1) / 2), (1 - s + (t + x) % 2) % 2, rfl, by omega, by omega, by omega, ?_⟩
    have g1 := hlot (b / 2 - (x + 1) / 2) ((t + x) % 2) (by omega)
    have g2 := hlot (b - (x + 1) - (b / 2 - (x + 1) / 2)) ((1 - s + (t + x) % 2) % 2) (by omega)
    rw [Int.natCast_mul] at k
    generalize lotN (b / 2 - (x + 1) / 2) ((t + x) % 2) = u at *
    generalize lotN (b - (x + 1) - (b / 2 - (x + 1) / 2)) ((1 - s + (t + x) % 2) % 2) = w at *
    (walk_at "dt go"; ((try rw [putAt_nil rfl]); (try dsimp only [back, List.set, wipeE])))
    refine opK_i (lift2_e rfl rfl (intO_e (mulW_e g1 g2))) ?_
    (walk_at "dt go"; ((try rw [putAt_nil rfl]); (try dsimp only [back, List.set, wipeE])))
    exact k
theorem ok_Taking_begun_with {P : Program} {w : World} {K : Fg} {mg : Str → Option Value} {base : Heap} {T : Tbl} (E : Facts K mg T w) : FnG P w K mg base CX0 2 E.a_Taking_begun_with E.d_Taking_begun_with ["self", "number"] (spD K T 2 (G_Taking_begun_with E.cl_Taking)) :=
  fnD (g := (g_Taking_begun_with E.cl_Taking)) E.u_Taking_begun_with sc_Taking_begun_with T [true, false] rfl (by decide) (fun cdv A outer s H E0 vs hr hgd => by
    have hgd : (A.deeper (envOfC "Taking.begun_with" (defScope s_Taking_begun_with) s.heap.objs.size E.a_Taking_begun_with cdv)).guards = some [] := hgd
    exact (db_cons (ds_set (i := 2) sc_Taking_begun_with.nd rfl (by first | exact Or.inl rfl | exact Or.inr rfl) (dv_fz (dv_methC E.cc_Taking E.me_Taking_top_behind (ok_Taking_top_behind E) (hr.mono (j := 1) (by decide)) hgd (b_Taking_top_behind E) (dn 0) (da_cons (dn 1) da_nil))) (noPinOf (by decide))) (db_cons (ds_if (dt_cmp op_gt (cmp_ok _ _) (dn 1) (dn 2)) (db_one (ds_ret dv_int)) db_nil) (db_cons (ds_set (i := 3) sc_Taking_begun_with.nd rfl (by first | exact Or.inl rfl | exact Or.inr rfl) (dv_fz (dv_op op_sub (sub_ok _) (dv_op op_fdiv (div_ok _) (dv_op op_addA (addA_ok _) (dn 2) dv_int) dv_int) (dv_op op_fdiv (div_ok _) (dv_op op_addA (addA_ok _) (dn 1) dv_int) dv_int))) (noPinOf (by decide))) (db_cons (ds_set (i := 4) sc_Taking_begun_with.nd rfl (by first | exact Or.inl rfl | exact Or.inr rfl) (dv_fz (dv_op op_sub (sub_ok _) (dv_op op_sub (sub_ok _) (dn 2) (dn 1)) (dn 3))) (noPinOf (by decide))) (db_cons (ds_par2 (i := 5) (j := 6) rfl sc_Taking_begun_with.nd rfl rfl (by decide) (noPinOf (by decide)) (noPinOf (by decide)) rfl rfl (da_cons (dv_fz (dv_op op_sub (sub_ok _) dv_int (dv_att E.cc_Taking E.na_Taking_size (dn 0)))) (da_cons (dv_fz (dv_op op_mod (mod_ok _) (dv_op op_addA (addA_ok _) (dv_att E.cc_Taking E.na_Taking_total (dn 0)) (dn 1)) dv_int)) da_nil))) (db_one (ds_ret (dv_op op_mulD2 (mulW_ok _) (dv_fn (ok_lots E) (hr.mono (j := 1) (by decide)) hgd rfl E.m_lots E.u_lots.kp (b_lots E) (da_cons (dv_att E.cc_Taking E.na_Taking_powers (dn 0)) (da_cons (dn 3) (da_cons (dn 6) da_nil)))) (dv_fn (ok_lots E) (hr.mono (j := 1) (by decide)) hgd rfl E.m_lots E.u_lots.kp (b_lots E) (da_cons (dv_att E.cc_Taking E.na_Taking_powers (dn 0)) (da_cons (dn 4) (da_cons (dv_fz (dv_op op_mod (mod_ok _) (dv_op op_addA (addA_ok _) (dn 5) (dn 6)) dv_int)) da_nil))))))))))))) (P_Taking_begun_with E.cl_Taking)
/-! ### number_of_set: level 4, io [False, False], slots ['many', 'chosen', 'number', 'taking', 'ahead', 'low', 'one'] -/
def G_number_of_set : Dt.Spec := fun os Q => ∃ (m k : Nat) (R : List Nat), os = [.fr (.int m), .fr (tI (Dt.cast R))] ∧ (2 ≤ m ∧ m ≤ 1000) ∧ (setsE m)[k]? = some R ∧ Q (.cl (.int k)) [none, none]
def g_number_of_set (C_Taking : Addr) : DS := (gSeq (gIf (gTst (gOp (dat2 (isND true)) (gCall G_set_error 2 (gCons (gVar 0) (gCons (gVar 1) gNil))) (gC .none))) gRaise gNext) (gSeq (gPar3 3 4 5 (gCons (gMake C_Taking (G_Taking_init C_Taking) 2 (gCons (gVar 0) gNil)) (gCons (gC (.int 0)) (gCons (gC (.int 0)) gNil)))) (gSeq (gFor (giAny (gVar 1)) (tgName 2) [2] (gSeq (gSet 4 (gFz (gOp (lift2 addO) (gVar 4) (gN (dat1 intD) (gCons (gMethC C_Taking "is_set" (G_Taking_is_set C_Taking) 1 (gVar 3) gNil) gNil))))) (gSeq (gSet 4 (gFz (gOp (lift2 addO) (gVar 4) (gN (intsF fun is => some is.sum) (gCons (gLc [6] (giRng2 (gCons (gVar 5) (gCons (gVar 2) gNil))) (tgName 6) gYes (gFz (gMethC C_Taking "begun_with" (G_Taking_begun_with C_Taking) 2 (gVar 3) (gCons (gVar 6) gNil)))) gNil))))) (gSeq (gExpr (gMethC C_Taking "take" (G_Taking_take C_Taking) 2 (gVar 3) (gCons (gVar 2) gNil))) (gSet 5 (gFz (gOp (lift2 addO) (gVar 2) (gC (.int 1))))))))) (gRet (gVar 4)))))
theorem P_number_of_set (C : Addr) : ∀ os Q0, os.length = 2 → G_number_of_set os Q0 → g_number_of_set C (rtD [false, false] Q0) (startE 7 os) := by
  rintro _ Q0 - ⟨m, kk, R, rfl, ⟨h2, hm⟩, hR, k⟩
  have hmem := List.mem_of_getElem? hR
  have hodd := (setsE_odd h2).mpr ⟨R, hmem, rfl⟩
  have hsub := hodd.sub.length_le
  rw [len_rangeI] at hsub
  have hlen : (Dt.cast R).length = R.length := List.length_map ..
  have hse := hodd.none
  rw [show startE 7 [OV.fr (PyData.int m), OV.fr (tI (Dt.cast R))] = [some (.fr (.int m)), some (.fr (tI (Dt.cast R))), none, none, none, none, none] from rfl]
  unfold g_number_of_set
  (walk_at "dt go"; ((try rw [putAt_nil rfl]); (try dsimp only [back, List.set, wipeE])))
  refine ⟨m, tI (Dt.cast R), rfl, fun ds e => ?_, ?_⟩
  · injection e with e
    subst e
    rw [List.length_map]
    omega
  rw [hse]
  (walk_at "dt go"; ((try rw [putAt_nil rfl]); (try dsimp only [back, List.set, wipeE])))
  refine ⟨m, rfl, by omega, rfl, _, _, rfl, ?_⟩
  (walk_at "dt go"; ((try rw [putAt_nil rfl]); (try dsimp only [back, List.set, wipeE])))
  refine forL_inv (fun j ρ => ∃ (low s t a r : Nat), (s < 2 ∧ t < 2 ∧ (R.take j ≠ [] → low ≠ 0) ∧ low ≤ m) ∧ a + r = kk ∧ (eN s t ++ cmpN m (R.take j) low s t)[r]? = some (R.drop j) ∧ ρ = [some (.fr (.int m)), some (.fr (tI (Dt.cast R))), none, some (takO C m (R.take j) s t), some (.fr (.int a)), some (.fr (.int low)), none]) ⟨0, m % 2, 0, 0, kk, ⟨by omega, by omega, fun z => absurd rfl z, by omega⟩, by omega, hR, rfl⟩ ?_ ?_
  · rintro j y _ hx ⟨low, s, t, a, r, ⟨hs, ht, hT, hlm⟩, har, hr, rfl⟩ K hK
    obtain ⟨yi, hyi, rfl⟩ := map_get hx
    obtain ⟨x, hxR, rfl⟩ := map_get hyi
    have hxm := ((mem_setsE h2).mp hmem).2.1 x (List.mem_of_getElem? hxR)
    have hjl := (List.getElem?_eq_some_iff.mp hxR).1
    have hTl : (R.take j).length ≤ m := by rw [List.length_take]; omega
    have hd : R.drop j = x :: R.drop (j + 1) := by
      rw [List.drop_eq_getElem_cons hjl]
      rw [List.getElem?_eq_getElem hjl] at hxR
      rw [Option.some.inj hxR]
    rw [hd] at hr
    obtain ⟨r1, e1, hr1⟩ := pre_at (by simp) hr
    have hlx : low ≤ x := by
      obtain ⟨b, r', e, hb⟩ := cmpN_head h2 hs ht (List.mem_of_getElem? hr1)
      obtain ⟨rfl, _⟩ := List.cons.inj e
      exact hb
    obtain ⟨r2, e2, hr2, hlt⟩ := beg_sum h2 hs ht (x - low) low r1 (by omega) hT hr1
    have hTx : R.take j ≠ [] → x ≠ 0 := fun z => by have := hT z; omega
    rw [blkN_cmp hTx] at hr2
    rw [tk_snoc hxR] at hK
    (walk_at "dt go"; ((try rw [putAt_nil rfl]); (try dsimp only [back, List.set, wipeE])))
    refine ⟨m, R.take j, s, t, rfl, ?_⟩
    (walk_at "dt go"; ((try rw [putAt_nil rfl]); (try dsimp only [back, List.set, wipeE])))
    refine rng2 (b62 (by omega) (by omega)) (b62 (by omega) (by omega)) ?_
    rw [rangeD_ints, show ((x : Int) - low).toNat = x - low by omega]
    refine lcK_map _ PyData.int (fun y => .int (begN m (R.take j) y.toNat s t : Nat)) (rangeI low (x - low)) rfl (by rw [len_rangeI]; omega) (fun y hy K1 K0 h => ?_) ?_
    · have hy := mem_rangeI.mp hy
      obtain ⟨y, rfl⟩ : ∃ z : Nat, y = (z : Int) := ⟨y.toNat, by omega⟩
      dsimp only [back, List.set, wipeE] at h
      (walk_at "dt go"; ((try rw [putAt_nil rfl]); (try dsimp only [back, List.set, wipeE])))
      refine ⟨m, R.take j, s, t, y, rfl, ⟨h2, hm, by omega⟩, ⟨hs, ht⟩, ?_⟩
      (walk_at "dt go"; ((try rw [putAt_nil rfl]); (try dsimp only [back, List.set, wipeE])))
      exact h _ rfl
    have hsum : ((rangeI low (x - low)).map fun y : Int => ((begN m (R.take j) y.toNat s t : Nat) : Int)).sum = ((((List.range (x - low)).map fun i => begN m (R.take j) (low + i) s t).sum : Nat) : Int) := by
      rw [show rangeI low (x - low) = (List.range (x - low)).map fun i : Nat => (low : Int) + i from rfl, List.map_map]
      generalize x - low = d
      induction d with
      | zero => rfl
      | succ d ih =>
        rw [List.range_succ, List.map_append, List.map_append, List.sum_append, List.sum_append, ih, List.map_singleton, List.map_singleton, List.sum_singleton, List.sum_singleton]
        rw [show ((fun y : Int => ((begN m (R.take j) y.toNat s t : Nat) : Int)) ∘ fun i : Nat => (low : Int) + i) d = ((begN m (R.take j) (low + d) s t : Nat) : Int) by
          show ((begN m (R.take j) ((low : Int) + d).toNat s t : Nat) : Int) = _
          rw [show ((low : Int) + d).toNat = low + d by omega]]
        omega
    (walk_at "dt go"; ((try rw [putAt_nil rfl]); (try dsimp only [back, List.set, wipeE])))
    refine sum_i (is := (rangeI low (x - low)).map fun y : Int => ((begN m (R.take j) y.toNat s t : Nat) : Int)) (by rw [List.map_map]; rfl) ?_
    rw [hsum]
    generalize ((List.range (x - low)).map fun i => begN m (R.take j) (low + i) s t).sum = S at *
    (walk_at "dt go"; ((try rw [putAt_nil rfl]); (try dsimp only [back, List.set, wipeE])))
    refine ⟨m, R.take j, s, t, x, rfl, ⟨hs, by omega⟩, ?_⟩
    (walk_at "dt go"; ((try rw [putAt_nil rfl]); (try dsimp only [back, List.set, wipeE])))
    obtain ⟨w, hw⟩ : ∃ w : Int, w = if decide (s = 0 ∧ t = 0) = true then 1 else 0 := ⟨_, rfl⟩
    rw [← hw] at e1 ⊢
    rw [show (a : Int) + w + (S : Int) = ((a + (r - r2) : Nat) : Int) by omega, show (x : Int) + 1 = ((x + 1 : Nat) : Int) from rfl]
    exact hK _ ⟨x + 1, 1 - s, (t + x) % 2, a + (r - r2), r2, ⟨by omega, by omega, fun _ => by omega, by omega⟩, by omega, hr2, rfl⟩
  · rintro _ ⟨low, s, t, a, r, ⟨hs, ht, hT, hlm⟩, har, hr, rfl⟩
    rw [List.length_map, hlen, List.drop_length] at hr
    have := end_at h2 hs ht hr
    rw [show kk = a by omega] at k
    (walk_at "dt go"; ((try rw [putAt_nil rfl]); (try dsimp only [back, List.set, wipeE])))
    exact k
theorem ok_number_of_set {P : Program} {w : World} {K : Fg} {mg : Str → Option Value} {base : Heap} {T : Tbl} (E : Facts K mg T w) : FnG P w K mg base CX0 4 E.a_number_of_set E.d_number_of_set ["many", "chosen"] (spD K T 2 G_number_of_set) :=
  fnD (g := (g_number_of_set E.cl_Taking)) E.u_number_of_set sc_number_of_set T [false, false] rfl (by decide) (fun cdv A outer s H E0 vs hr hgd => by
    have hgd : (A.deeper (envOfC "number_of_set" (defScope s_number_of_set) s.heap.objs.size E.a_number_of_set cdv)).guards = some [] := hgd
    exact (db_cons (ds_if (dt_cmp op_notN (notN_ok _) (dv_fn (ok_set_error E) (hr.mono (j := 3) (by decide)) hgd rfl E.m_set_error E.u_set_error.kp (b_set_error E) (da_cons (dn 0) (da_cons (dn 1) da_nil))) dv_none) (db_one ds_raise) db_nil) (db_cons (ds_par3T (i := 3) (j := 4) (l := 5) rfl sc_number_of_set.nd rfl rfl rfl (by decide) (by decide) (by decide) (noPinOf (by decide)) (noPinOf (by decide)) (noPinOf (by decide)) (by first | exact Or.inl rfl | exact Or.inr rfl) (by first | exact Or.inl rfl | exact Or.inr rfl) (by first | exact Or.inl rfl | exact Or.inr rfl) (da_cons (dv_make E.mk_Taking (ok_Taking_init E) (hr.mono (j := 2 + 1) (by decide)) hgd rfl E.mc_Taking (b_Taking_init E) (da_cons (dn 0) da_nil)) (da_cons dv_int (da_cons dv_int da_nil)))) (db_cons (ds_for [2] PassesOwn.never rfl (di_any (dn 1)) (dg_name (i := 2) sc_number_of_set.nd rfl (by first | exact Or.inl rfl | exact Or.inr rfl) (noPinOf (by decide))) (db_cons (ds_set (i := 4) sc_number_of_set.nd rfl (by first | exact Or.inl rfl | exact Or.inr rfl) (dv_fz (dv_op op_addA (addA_ok _) (dn 4) (dv_callT call_int1 (int_ok _) rfl E.z_int (by decide +kernel) (da_cons (dv_methC0 E.cc_Taking E.me_Taking_is_set (ok_Taking_is_set E) (hr.mono (j := 1) (by decide)) hgd (b_Taking_is_set E) (dn 3)) da_nil)))) (noPinOf (by decide))) (db_cons (ds_set (i := 4) sc_number_of_set.nd rfl (by first | exact Or.inl rfl | exact Or.inr rfl) (dv_fz (dv_op op_addA (addA_ok _) (dn 4) (dv_call (call_sumA rfl) (sum_ok _) rfl E.z_sum (by decide +kernel) (da_cons (dv_lc (own := [("one", 6)]) (ts := [6]) rfl sc_number_of_set.nd (di_range2 rfl E.z_range (da_cons (dn 5) (da_cons (dn 2) da_nil))) (blkOk_by (by rfl)) (fun _ _ _ _ _ => (dg_name (i := 6) sc_number_of_set.nd rfl (by first | exact Or.inl rfl | exact Or.inr rfl) (noPinOf (by decide)))) (fun _ _ _ _ _ => dts_nil) (fun _ _ _ _ _ => (dv_fz (dv_methC E.cc_Taking E.me_Taking_begun_with (ok_Taking_begun_with E) (hr.mono (j := 2) (by decide)) hgd (b_Taking_begun_with E) (dn 3) (da_cons (dn 6) da_nil)))) (by decide) (by intro i hi; exact noPinOf (by revert i; decide))) da_nil)))) (noPinOf (by decide))) (db_cons (ds_expr (dv_methC E.cc_Taking E.me_Taking_take (ok_Taking_take E) (hr.mono (j := 1) (by decide)) hgd (b_Taking_take E) (dn 3) (da_cons (dn 2) da_nil))) (db_one (ds_set (i := 5) sc_number_of_set.nd rfl (by first | exact Or.inl rfl | exact Or.inr rfl) (dv_fz (dv_op op_addA (addA_ok _) (dn 2) dv_int)) (noPinOf (by decide)))))))) (db_one (ds_ret (dn 4))))))) (P_number_of_set E.cl_Taking)
/-! ### _law_pick: level 2, io [True, False], slots ['jar', 'row'] -/
def G_law_pick : Dt.Spec := fun os Q => ∃ (n : Nat) (o : OV) (ds : List PyData), os = [.opq (jarC n), o] ∧ n < 1000000000000 ∧ (o = .fr (.list ds) ∨ o = .fr (.tuple ds) ∨ o = .lst ds) ∧ (0 < ds.length ∧ ds.length < 1073741824) ∧ ∀ d : PyData, d ∈ ds → Q (.cl d) [some (.opq (jarC (n + 1))), none]
def g_law_pick : DS := (gRet (gOp ixR (gVar 1) (gCall G_law_draw 2 (gCons (gVar 0) (gCons (gN lenR (gCons (gVar 1) gNil)) gNil)))))
theorem P_law_pick : ∀ os Q0, os.length = 2 → G_law_pick os Q0 → g_law_pick (rtD [true, false] Q0) (startE 2 os) := by
  rintro _ Q0 - ⟨n, o, ds, rfl, hn, ho, ⟨h0, hl⟩, k⟩
  unfold g_law_pick
  have get : ∀ r : Int, 0 ≤ r → (r < (ds.length : Int) ∨ r = 0) → ∃ d, d ∈ ds ∧ L2.atI ds r = some d := fun r h1 h2 => by
    have hr : r.toNat < ds.length := by omega
    exact ⟨ds[r.toNat], List.getElem_mem _, atI_nat h1 (List.getElem?_eq_getElem hr)⟩
  rcases ho with rfl | rfl | rfl
  all_goals
    walk_at "dt go"
    refine ⟨n, _, rfl, ⟨hn, (by first | omega | (simp only; omega)), (by first | omega | (simp only; omega))⟩, fun r h1 h2 => ?_⟩
    obtain ⟨d, hd, e⟩ := get r h1 h2
    walk_at "dt go"
    refine ok_i (ix_e rfl rfl rfl e) ?_
    walk_at "dt go"
    exact k d hd
theorem ok_law_pick {P : Program} {w : World} {K : Fg} {mg : Str → Option Value} {base : Heap} {T : Tbl} (E : Facts K mg T w) : FnG P w K mg base CX0 2 E.a_law_pick E.d_law_pick ["jar", "row"] (spD K T 2 G_law_pick) :=
  fnD (g := g_law_pick) E.u_law_pick sc_law_pick T [true, false] rfl (by decide) (fun cdv A outer s H E0 vs hr hgd => by
    have hgd : (A.deeper (envOfC "_law_pick" (defScope s_law_pick) s.heap.objs.size E.a_law_pick cdv)).guards = some [] := hgd
    exact (db_one (ds_ret (dv_ix (dn 1) (dv_fn (ok_law_draw E) (hr.mono (j := 1) (by decide)) hgd rfl E.m_law_draw E.u_law_draw.kp (b_law_draw E) (da_cons (dn 0) (da_cons (dv_call call_lenA (len_ok _) rfl E.z_len (by decide +kernel) (da_cons (dn 1) da_nil)) da_nil))) (fun _ _ => rfl))))) P_law_pick
/-! ### set_count: level 2, io [False], slots ['many'] -/
-- use: ⟨_, rfl, (by omega), ?_⟩
def G_set_count : Dt.Spec := fun os Q => ∃ m : Nat, os = [.fr (.int m)] ∧ (2 ≤ m ∧ m ≤ 1000) ∧ Q (.cl (.int (setsE m).length)) [none]
def g_set_count : DS := (gRet (gIfE (gTst (gOp (lift2 (cmpO fun i j => decide (i < j))) (gVar 0) (gC (.int 4)))) (gOp (lift2 subO) (gVar 0) (gC (.int 1))) (gOp (lift2 mulO) (gC (.int 3)) (gOp ixR (gCall G_doublings 1 (gCons (gFz (gOp (lift2 subO) (gVar 0) (gC (.int 4)))) gNil)) (gNeg (gC (.int 1)))))))
theorem P_set_count : ∀ os Q0, os.length = 1 → G_set_count os Q0 → g_set_count (rtD [false] Q0) (startE 1 os) := by
  rintro _ Q0 - ⟨m, rfl, ⟨h2, hm⟩, k⟩
  rw [show startE 1 [OV.fr (PyData.int m)] = [some (.fr (.int m))] from rfl]
  unfold g_set_count
  rw [setsE_len h2] at k
  (walk_at "dt go"; ((try rw [putAt_nil rfl]); (try dsimp only [back, List.set, wipeE])))
  refine ite_b (fun c => ?_) fun c => ?_
  · have c := of_decide_eq_true c
    rw [if_pos (by omega)] at k
    (walk_at "dt go"; ((try rw [putAt_nil rfl]); (try dsimp only [back, List.set, wipeE])))
    rw [show (m : Int) - 1 = ((m - 1 : Nat) : Int) by omega]
    exact k
  · have c := of_decide_eq_false c
    rw [if_neg (by omega)] at k
    (walk_at "dt go"; ((try rw [putAt_nil rfl]); (try dsimp only [back, List.set, wipeE])))
    rw [show (m : Int) - 4 = ((m - 4 : Nat) : Int) by omega]
    refine ⟨m - 4, rfl, by omega, ?_⟩
    (walk_at "dt go"; ((try rw [putAt_nil rfl]); (try dsimp only [back, List.set, wipeE])))
    refine ok_i (ix_e rfl rfl rfl (powL_last _)) ?_
    (walk_at "dt go"; ((try rw [putAt_nil rfl]); (try dsimp only [back, List.set, wipeE])))
    rw [show (3 : Int) * ((2 ^ (m - 4) : Nat) : Int) = ((3 * 2 ^ (m - 4) : Nat) : Int) by omega]
    exact k
local macro_rules | `(tactic| walk_at "dt use") => `(tactic| ((with_reducible refine (show G_set_count _ _ from ?_)); refine ⟨_, rfl, (by omega), ?_⟩))
theorem ok_set_count {P : Program} {w : World} {K : Fg} {mg : Str → Option Value} {base : Heap} {T : Tbl} (E : Facts K mg T w) : FnG P w K mg base CX0 2 E.a_set_count E.d_set_count ["many"] (spD K T 1 G_set_count) :=
  fnD (g := g_set_count) E.u_set_count sc_set_count T [false] rfl (by decide) (fun cdv A outer s H E0 vs hr hgd => by
    have hgd : (A.deeper (envOfC "set_count" (defScope s_set_count) s.heap.objs.size E.a_set_count cdv)).guards = some [] := hgd
    exact (db_one (ds_ret (dv_if (dt_cmp op_lt (cmp_ok _ _) (dn 0) dv_int) (dv_op op_sub (sub_ok _) (dn 0) dv_int) (dv_op op_mulA (mulA_ok _) dv_int (dv_ix (dv_fn (ok_doublings E) (hr.mono (j := 1) (by decide)) hgd rfl E.m_doublings E.u_doublings.kp (b_doublings E) (da_cons (dv_fz (dv_op op_sub (sub_ok _) (dn 0) dv_int)) da_nil)) (dv_neg dv_int) (fun _ _ => rfl))))))) P_set_count
/-! ### set_at: level 4, io [False, False], slots ['many', 'number', 'taking', 'ahead', 'low'] -/
def G_set_at : Dt.Spec := fun os Q => ∃ (m k : Nat) (R : List Nat), os = [.fr (.int m), .fr (.int k)] ∧ (2 ≤ m ∧ m ≤ 1000) ∧ (setsE m)[k]? = some R ∧ Q (.cl (tI (Dt.cast R))) [none, none]
theorem t_cut {g : DT} {ρ : Dt.Env} {Q : Bool → Bool → Dt.Env → Prop} (R : Bool → Bool → Dt.Env → Prop) (h1 : ∀ K : Bool → Bool → Dt.Env → Prop, (∀ q b ρ', R q b ρ' → K q b ρ') → g ρ K) (h2 : ∀ q b ρ', R q b ρ' → Q q b ρ') : g ρ Q := h1 Q h2
def slI (ρ : Dt.Env) (i : Nat) : Int := match ρ[i]? with
  | some (some (Dt.OV.fr (.int c))) => c
  | _ => 0
def g_set_at (C_Taking : Addr) : DS := (gSeq (gIf (gOr (gNot (gTst (gCall G_is_integer 1 (gCons (gVar 1) gNil)))) (gNot (gTst (gChain (lift2 (cmpO fun i j => decide (i ≤ j))) (lift2 (cmpO fun i j => decide (i < j))) (gC (.int 0)) (gVar 1) (gCall G_set_count 1 (gCons (gVar 0) gNil)))))) gRaise gNext) (gSeq (gPar3 2 3 4 (gCons (gMake C_Taking (G_Taking_init C_Taking) 2 (gCons (gVar 0) gNil)) (gCons (gVar 1) (gCons (gC (.int 0)) gNil)))) (gSeq (gWhile (gOr (gTst (gOp (lift2 (cmpO fun i j => decide (j < i))) (gVar 3) (gC (.int 0)))) (gNot (gTst (gMethC C_Taking "is_set" (G_Taking_is_set C_Taking) 1 (gVar 2) gNil)))) [] (gSeq (gSet 3 (gFz (gOp (lift2 subO) (gVar 3) (gN (dat1 intD) (gCons (gMethC C_Taking "is_set" (G_Taking_is_set C_Taking) 1 (gVar 2) gNil) gNil))))) (gSeq (gWhile (gTst (gOp (lift2 (cmpO fun i j => decide (j ≤ i))) (gVar 3) (gMethC C_Taking "begun_with" (G_Taking_begun_with C_Taking) 2 (gVar 2) (gCons (gVar 4) gNil)))) [] (gPar 3 4 (gCons (gFz (gOp (lift2 subO) (gVar 3) (gMethC C_Taking "begun_with" (G_Taking_begun_with C_Taking) 2 (gVar 2) (gCons (gVar 4) gNil)))) (gCons (gFz (gOp (lift2 addO) (gVar 4) (gC (.int 1)))) gNil)))) (gSeq (gExpr (gMethC C_Taking "take" (G_Taking_take C_Taking) 2 (gVar 2) (gCons (gVar 4) gNil))) (gSet 4 (gFz (gOp (lift2 addO) (gVar 4) (gC (.int 1))))))))) (gRet (gN tupR (gCons (gAtt C_Taking "taken" (gVar 2)) gNil))))))
theorem P_set_at (C : Addr) : ∀ os Q0, os.length = 2 → G_set_at os Q0 → g_set_at C (rtD [false, false] Q0) (startE 5 os) := by
  rintro _ Q0 - ⟨m, kk, R, rfl, ⟨h2, hm⟩, hR, k⟩
  have hk : kk < (setsE m).length := (List.getElem?_eq_some_iff.mp hR).1
  rw [show startE 5 [OV.fr (PyData.int m), OV.fr (PyData.int kk)] = [some (.fr (.int m)), some (.fr (.int kk)), none, none, none] from rfl]
  unfold g_set_at
  (walk_at "dt go"; ((try rw [putAt_nil rfl]); (try dsimp only [back, List.set, wipeE])))
  refine ite_b (fun c => absurd c (by simp; omega)) fun c => ?_
  clear c
  (walk_at "dt go"; ((try rw [putAt_nil rfl]); (try dsimp only [back, List.set, wipeE])))
  refine ⟨m, rfl, by omega, rfl, _, _, rfl, ?_⟩
  (walk_at "dt go"; ((try rw [putAt_nil rfl]); (try dsimp only [back, List.set, wipeE])))
  refine ⟨fun ρ => ∃ (T : List Nat) (low s t a : Nat) (X : List Nat), (s < 2 ∧ t < 2 ∧ (T ≠ [] → low ≠ 0) ∧ low ≤ m ∧ T.length ≤ low) ∧ (eN s t ++ cmpN m T low s t)[a]? = some X ∧ T ++ X = R ∧ ρ = [some (.fr (.int m)), some (.fr (.int kk)), some (takO C m T s t), some (.fr (.int a)), some (.fr (.int low))], fun ρ => m - (slI ρ 4).toNat, ⟨[], 0, m % 2, 0, kk, R, ⟨by omega, by omega, fun z => absurd rfl z, by omega, Nat.le_refl _⟩, hR, rfl, rfl⟩, ?_⟩
  rintro _ ⟨T, low, s, t, a, X, ⟨hs, ht, hT, hlm, hTl⟩, hX, hTX, rfl⟩
  refine t_cut (fun _ b ρ => b = decide (0 < a ∨ ¬ (s = 0 ∧ t = 0)) ∧ ρ = [some (.fr (.int m)), some (.fr (.int kk)), some (takO C m T s t), some (.fr (.int a)), some (.fr (.int low))]) (fun K hK => ?_) ?_
  · (walk_at "dt go"; ((try rw [putAt_nil rfl]); (try dsimp only [back, List.set, wipeE])))
    refine ite_b (fun c => ?_) fun c => ?_
    · have c := of_decide_eq_true c
      exact hK _ _ _ ⟨(decide_eq_true (Or.inl (by omega))).symm, rfl⟩
    · have c := of_decide_eq_false c
      (walk_at "dt go"; ((try rw [putAt_nil rfl]); (try dsimp only [back, List.set, wipeE])))
      refine ⟨m, T, s, t, rfl, ?_⟩
      (walk_at "dt go"; ((try rw [putAt_nil rfl]); (try dsimp only [back, List.set, wipeE])))
      refine hK _ _ _ ⟨?_, rfl⟩
      rw [show decide (0 < a ∨ ¬ (s = 0 ∧ t = 0)) = decide (¬ (s = 0 ∧ t = 0)) from decide_eq_decide.mpr ⟨fun h => h.elim (fun z => absurd z (by omega)) id, Or.inr⟩, decide_not]
  rintro _ _ _ ⟨rfl, rfl⟩
  refine ite_b (fun c => ?_) fun c => ?_
  · have c := of_decide_eq_true c
    obtain ⟨a1, ha1, hX1⟩ : ∃ a1 : Nat, (a1 : Int) = (a : Int) - (if decide (s = 0 ∧ t = 0) = true then 1 else 0) ∧ (cmpN m T low s t)[a1]? = some X := by
      by_cases z : s = 0 ∧ t = 0
      · have ha : 0 < a := c.elim id (fun w => absurd z w)
        refine ⟨a - 1, by rw [if_pos (decide_eq_true z)]; omega, ?_⟩
        rw [← hX]
        unfold eN
        rw [if_pos z]
        obtain ⟨b, rfl⟩ := Nat.exists_eq_succ_of_ne_zero (show a ≠ 0 by omega)
        rfl
      · refine ⟨a, by rw [if_neg (by simpa using z)]; omega, ?_⟩
        rw [← hX]
        unfold eN
        rw [if_neg z]
        rfl
    (walk_at "dt go"; ((try rw [putAt_nil rfl]); (try dsimp only [back, List.set, wipeE])))
    refine ⟨m, T, s, t, rfl, ?_⟩
    (walk_at "dt go"; ((try rw [putAt_nil rfl]); (try dsimp only [back, List.set, wipeE])))
    rw [← ha1]
    refine ⟨fun ρ => ∃ (l2 a2 : Nat), (T ≠ [] → l2 ≠ 0) ∧ low ≤ l2 ∧ l2 ≤ m ∧ (cmpN m T l2 s t)[a2]? = some X ∧ ρ = [some (.fr (.int m)), some (.fr (.int kk)), some (takO C m T s t), some (.fr (.int a2)), some (.fr (.int l2))], fun ρ => m - (slI ρ 4).toNat, ⟨low, a1, hT, Nat.le_refl _, hlm, hX1, rfl⟩, ?_⟩
    rintro _ ⟨l2, a2, hT2, hl2, hl2m, hX2, rfl⟩
    have hb : bndN m T l2 ≤ m := by unfold bndN; split <;> omega
    have hlt : l2 < bndN m T l2 := by
      rcases Nat.lt_or_ge l2 (bndN m T l2) with h | h
      · exact h
      · rw [cmpN_nil h2 h] at hX2
        cases hX2
    have hbl := begN_len (t := t) hlt hs
    rw [cmpN_step h2 hT2 hlt] at hX2
    (walk_at "dt go"; ((try rw [putAt_nil rfl]); (try dsimp only [back, List.set, wipeE])))
    refine ⟨m, T, s, t, l2, rfl, ⟨h2, hm, by omega⟩, ⟨hs, ht⟩, ?_⟩
    (walk_at "dt go"; ((try rw [putAt_nil rfl]); (try dsimp only [back, List.set, wipeE])))
    refine ite_b (fun c => ?_) fun c => ?_
    · have c := of_decide_eq_true c
      (walk_at "dt go"; ((try rw [putAt_nil rfl]); (try dsimp only [back, List.set, wipeE])))
      refine ⟨m, T, s, t, l2, rfl, ⟨h2, hm, by omega⟩, ⟨hs, ht⟩, ?_⟩
      (walk_at "dt go"; ((try rw [putAt_nil rfl]); (try dsimp only [back, List.set, wipeE])))
      rw [List.getElem?_append_right (by rw [List.length_map]; omega), List.length_map, ← hbl] at hX2
      rw [show (a2 : Int) - (begN m T l2 s t : Nat) = ((a2 - begN m T l2 s t : Nat) : Int) by omega, show (l2 : Int) + 1 = ((l2 + 1 : Nat) : Int) from rfl]
      refine ⟨⟨l2 + 1, a2 - begN m T l2 s t, fun _ => by omega, by omega, by omega, hX2, rfl⟩, ?_⟩
      show m - (((l2 + 1 : Nat) : Int)).toNat < m - ((l2 : Int)).toNat
      omega
    · have c := of_decide_eq_false c
      rw [List.getElem?_append_left (by rw [List.length_map]; omega), List.getElem?_map] at hX2
      obtain ⟨X2, hX3, rfl⟩ : ∃ X2, (blkN m T l2 s t)[a2]? = some X2 ∧ l2 :: X2 = X := by
        cases e : (blkN m T l2 s t)[a2]? with
        | none => rw [e] at hX2; cases hX2
        | some z => rw [e] at hX2; exact ⟨z, rfl, Option.some.inj hX2⟩
      rw [blkN_cmp hT2] at hX3
      (walk_at "dt go"; ((try rw [putAt_nil rfl]); (try dsimp only [back, List.set, wipeE])))
      refine ⟨m, T, s, t, l2, rfl, ⟨hs, by omega⟩, ?_⟩
      (walk_at "dt go"; ((try rw [putAt_nil rfl]); (try dsimp only [back, List.set, wipeE])))
      rw [show (l2 : Int) + 1 = ((l2 + 1 : Nat) : Int) from rfl]
      refine ⟨⟨T ++ [l2], l2 + 1, 1 - s, (t + l2) % 2, a2, X2, ⟨by omega, by omega, fun _ => by omega, by omega, by rw [List.length_append]; show _ + 1 ≤ _; omega⟩, hX3, by rw [List.append_assoc]; exact hTX, rfl⟩, ?_⟩
      show m - (((l2 + 1 : Nat) : Int)).toNat < m - ((low : Int)).toNat
      omega
  · have c := of_decide_eq_false c
    have z : s = 0 ∧ t = 0 ∧ a = 0 := by omega
    obtain ⟨rfl, rfl, rfl⟩ := z
    have hX0 : X = [] := by
      unfold eN at hX
      rw [if_pos ⟨rfl, rfl⟩] at hX
      exact (Option.some.inj hX).symm
    subst hX0
    rw [List.append_nil] at hTX
    subst hTX
    (walk_at "dt go"; ((try rw [putAt_nil rfl]); (try dsimp only [back, List.set, wipeE])))
    exact k
theorem ok_set_at {P : Program} {w : World} {K : Fg} {mg : Str → Option Value} {base : Heap} {T : Tbl} (E : Facts K mg T w) : FnG P w K mg base CX0 4 E.a_set_at E.d_set_at ["many", "number"] (spD K T 2 G_set_at) :=
  fnD (g := (g_set_at E.cl_Taking)) E.u_set_at sc_set_at T [false, false] rfl (by decide) (fun cdv A outer s H E0 vs hr hgd => by
    have hgd : (A.deeper (envOfC "set_at" (defScope s_set_at) s.heap.objs.size E.a_set_at cdv)).guards = some [] := hgd
    exact (db_cons (ds_if (DWv.t (dw_or (dt_not (dt_val (dv_fn (ok_is_integer E) (hr.mono (j := 1) (by decide)) hgd rfl E.m_is_integer E.u_is_integer.kp (b_is_integer E) (da_cons (dn 1) da_nil)))) (dw_or1 (dt_not (dt_chain op_le (cmp_ok _ _) op_lt (cmp_ok _ _) dv_int (dn 1) (dv_fn (ok_set_count E) (hr.mono (j := 2) (by decide)) hgd rfl E.m_set_count E.u_set_count.kp (b_set_count E) (da_cons (dn 0) da_nil))))))) (db_one ds_raise) db_nil) (db_cons (ds_par3 (i := 2) (j := 3) (l := 4) rfl sc_set_at.nd rfl rfl rfl (by decide) (by decide) (by decide) (noPinOf (by decide)) (noPinOf (by decide)) (noPinOf (by decide)) rfl rfl rfl (da_cons (dv_make E.mk_Taking (ok_Taking_init E) (hr.mono (j := 2 + 1) (by decide)) hgd rfl E.mc_Taking (b_Taking_init E) (da_cons (dn 0) da_nil)) (da_cons (dn 1) (da_cons dv_int da_nil)))) (db_cons (ds_while [] PassesOwn.never (DWv.t (dw_or (dt_cmp op_gt (cmp_ok _ _) (dn 3) dv_int) (dw_or1 (dt_not (dt_val (dv_methC0 E.cc_Taking E.me_Taking_is_set (ok_Taking_is_set E) (hr.mono (j := 1) (by decide)) hgd (b_Taking_is_set E) (dn 2))))))) (db_cons (ds_set (i := 3) sc_set_at.nd rfl (by first | exact Or.inl rfl | exact Or.inr rfl) (dv_fz (dv_op op_sub (sub_ok _) (dn 3) (dv_callT call_int1 (int_ok _) rfl E.z_int (by decide +kernel) (da_cons (dv_methC0 E.cc_Taking E.me_Taking_is_set (ok_Taking_is_set E) (hr.mono (j := 1) (by decide)) hgd (b_Taking_is_set E) (dn 2)) da_nil)))) (noPinOf (by decide))) (db_cons (ds_while [] PassesOwn.never (dt_cmp op_ge (cmp_ok _ _) (dn 3) (dv_methC E.cc_Taking E.me_Taking_begun_with (ok_Taking_begun_with E) (hr.mono (j := 2) (by decide)) hgd (b_Taking_begun_with E) (dn 2) (da_cons (dn 4) da_nil))) (db_one (ds_par2 (i := 3) (j := 4) rfl sc_set_at.nd rfl rfl (by decide) (noPinOf (by decide)) (noPinOf (by decide)) rfl rfl (da_cons (dv_fz (dv_op op_sub (sub_ok _) (dn 3) (dv_methC E.cc_Taking E.me_Taking_begun_with (ok_Taking_begun_with E) (hr.mono (j := 2) (by decide)) hgd (b_Taking_begun_with E) (dn 2) (da_cons (dn 4) da_nil)))) (da_cons (dv_fz (dv_op op_addA (addA_ok _) (dn 4) dv_int)) da_nil))))) (db_cons (ds_expr (dv_methC E.cc_Taking E.me_Taking_take (ok_Taking_take E) (hr.mono (j := 1) (by decide)) hgd (b_Taking_take E) (dn 2) (da_cons (dn 4) da_nil))) (db_one (ds_set (i := 4) sc_set_at.nd rfl (by first | exact Or.inl rfl | exact Or.inr rfl) (dv_fz (dv_op op_addA (addA_ok _) (dn 4) dv_int)) (noPinOf (by decide)))))))) (db_one (ds_ret (dv_callT call_tupleP (tup_ok _) rfl E.z_tuple (by decide +kernel) (da_cons (dv_att E.cc_Taking E.na_Taking_taken (dn 2)) da_nil)))))))) (P_set_at E.cl_Taking)
/-! ### _law_is_whole: level 1, io [False, False, False], slots ['value', 'low', 'high'] -/
-- use: ⟨_, _, _, rfl, ?_⟩
def wholeB (d : PyData) (lo hi : Int) : Bool := match d with
  | .int i => decide (lo ≤ i) && decide (i ≤ hi)
  | _ => false
def G_law_is_whole : Dt.Spec := fun os Q => ∃ (d : PyData) (lo hi : Int), os = [.fr d, .fr (.int lo), .fr (.int hi)] ∧ Q (.cl (.bool (wholeB d lo hi))) [none, none, none]
def g_law_is_whole : DS := (gRet (gAndV (gIsi "int" (gVar 0)) (gAndV (gNotV (gIsi "bool" (gVar 0))) (gChain (lift2 (cmpO fun i j => decide (i ≤ j))) (lift2 (cmpO fun i j => decide (i ≤ j))) (gVar 1) (gVar 0) (gVar 2)))))
theorem P_law_is_whole : ∀ os Q0, os.length = 3 → G_law_is_whole os Q0 → g_law_is_whole (rtD [false, false, false] Q0) (startE 3 os) := by
  rintro _ Q0 - ⟨d, lo, hi, rfl, k⟩
  unfold g_law_is_whole
  cases d with
  | int i =>
    have k : Q0 (.cl (.bool (decide (lo ≤ i) && decide (i ≤ hi)))) [none, none, none] := k
    walk_at "dt go"
    (first | refine ite_d (fun c => ?_) fun c => ?_ | refine ite_nd (fun c => ?_) fun c => ?_ | refine ite_b (fun c => ?_) fun c => ?_)
    · rw [decide_eq_true c] at k
      walk_at "dt go"
      exact k
    · rw [decide_eq_false c] at k
      walk_at "dt go"
      exact k
  | _ =>
    walk_at "dt go"
    exact k
local macro_rules | `(tactic| walk_at "dt use") => `(tactic| ((with_reducible refine (show G_law_is_whole _ _ from ?_)); refine ⟨_, _, _, rfl, ?_⟩))
theorem ok_law_is_whole {P : Program} {w : World} {K : Fg} {mg : Str → Option Value} {base : Heap} {T : Tbl} (E : Facts K mg T w) : FnG P w K mg base CX0 1 E.a_law_is_whole E.d_law_is_whole ["value", "low", "high"] (spD K T 3 G_law_is_whole) :=
  fnD (g := g_law_is_whole) E.u_law_is_whole sc_law_is_whole T [false, false, false] rfl (by decide) (fun cdv A outer s H E0 vs hr hgd => by
    have hgd : (A.deeper (envOfC "_law_is_whole" (defScope s_law_is_whole) s.heap.objs.size E.a_law_is_whole cdv)).guards = some [] := hgd
    exact (db_one (ds_ret (dv_and (dv_isi (dn 0) rfl E.z_isinstance rfl E.z_int (by decide +kernel) (by simp)) (dv_and (dv_not (dv_isi (dn 0) rfl E.z_isinstance rfl E.z_bool (by decide +kernel) (by simp))) (dv_one (dv_chain op_le (cmp_ok _ _) op_le (cmp_ok _ _) (dn 1) (dn 0) (dn 2)))))))) P_law_is_whole
/-! ### _law_set_wrong: level 2, io [False, False], slots ['many', 'value', 'place', 'item'] -/
def G_law_set_wrong : Dt.Spec := fun os Q => ∃ (m : Int) (v : PyData), os = [.fr (.int m), .fr v] ∧ Q (.cl (setE m v)) [none, none]
theorem whole_in (m i : Int) : wholeB (.int i) 0 (m - 1) = true ↔ 0 ≤ i ∧ i < m := by
  show ((decide (0 ≤ i) && decide (i ≤ m - 1)) = true) ↔ _
  simp
  omega
theorem dropD {α : Type} {l : List α} {j : Nat} {x : α} (h : l[j]? = some x) : l.drop j = x :: l.drop (j + 1) := by
  obtain ⟨h1, h2⟩ := List.getElem?_eq_some_iff.mp h
  rw [List.drop_eq_getElem_cons h1, h2]
def g_law_set_wrong : DS := (gSeq (gIf (gNot (gTst (gIsi "tuple" (gVar 1)))) (gRet (gC (.str "form"))) gNext) (gSeq (gFor (giEnum (gCons (gVar 1) gNil)) (tgTup 2 (tgsCons (tgName 2) (tgsCons (tgName 3) tgsNil))) [2, 3] (gIf (gOr (gNot (gTst (gCall G_law_is_whole 3 (gCons (gVar 3) (gCons (gC (.int 0)) (gCons (gFz (gOp (lift2 subO) (gVar 0) (gC (.int 1)))) gNil)))))) (gAnd (gTst (gOp (lift2 (cmpO fun i j => decide (j < i))) (gVar 2) (gC (.int 0)))) (gTst (gOp (lift2 (cmpO fun i j => decide (i ≤ j))) (gVar 3) (gOp ixR (gVar 1) (gOp (lift2 subO) (gVar 2) (gC (.int 1)))))))) (gRet (gC (.str "form"))) gNext)) (gSeq (gIf (gTst (gOp (dat2 (eqD true)) (gOp (lift2 (intO cMod fun i j => i % j)) (gN (dat1 intD) (gCons (gN lenR (gCons (gVar 1) gNil)) gNil)) (gC (.int 2))) (gOp (lift2 (intO cMod fun i j => i % j)) (gN (dat1 intD) (gCons (gVar 0) gNil)) (gC (.int 2))))) (gRet (gC (.str "parity"))) gNext) (gSeq (gIf (gTst (gOp (dat2 (eqD true)) (gOp (lift2 (intO cMod fun i j => i % j)) (gN (dat1 intD) (gCons (gN (intsF fun is => some is.sum) (gCons (gVar 1) gNil)) gNil)) (gC (.int 2))) (gC (.int 0)))) (gRet (gC (.str "sum"))) gNext) (gRet (gIfE (gAnd (gTst (gOp (dat2 (eqD true)) (gVar 1) (gN mkTup gNil))) (gAnd (gTst (gOp (dat2 (eqD false)) (gOp ixR (gVar 1) (gC (.int 0))) (gC (.int 0)))) (gTst (gOp (dat2 (eqD false)) (gOp ixR (gVar 1) (gNeg (gC (.int 1)))) (gOp (lift2 subO) (gVar 0) (gC (.int 1))))))) (gC (.str "ends")) (gC .none)))))))
theorem P_law_set_wrong : ∀ os Q0, os.length = 2 → G_law_set_wrong os Q0 → g_law_set_wrong (rtD [false, false] Q0) (startE 4 os) := by
  rintro _ Q0 - ⟨m, v, rfl, k⟩
  unfold g_law_set_wrong
  cases v with
  | tuple ds =>
    (walk_at "dt go"; ((try rw [putAt_nil rfl]); (try dsimp only [back, List.set, wipeE])))
    refine forL_inv (fun j ρ => ∃ last : Int, ρ = [some (.fr (.int m)), some (.fr (.tuple ds)), none, none] ∧ risD m (-1) ds = risD m last (ds.drop j) ∧ (j = 0 ∧ last = -1 ∨ 0 < j ∧ ds[j - 1]? = some (.int last)) ∧ -1 ≤ last) ⟨-1, rfl, rfl, .inl ⟨rfl, rfl⟩, by omega⟩ ?_ ?_
    · rintro j x _ hx ⟨last, rfl, hr, hp, hl⟩ K hK
      obtain ⟨d, hd, rfl⟩ := enumD_get hx
      rw [dropD hd] at hr
      have bad : (∀ i, d = .int i → ¬ (last < i ∧ i < m)) → Q0 (.cl (.str (Str.ofString "form"))) [none, none] := fun h => by
        rw [setE_no (by rw [hr]; exact risD_bad List.mem_cons_self h)] at k
        exact k
      (walk_at "dt go"; ((try rw [putAt_nil rfl]); (try dsimp only [back, List.set, wipeE])))
      by_cases hi : ∃ i : Int, d = .int i ∧ 0 ≤ i ∧ i < m
      · obtain ⟨i, rfl, h0, h1⟩ := hi
        have hr : risD m (-1) ds = ((decide (last < i) && decide (i < m)) && risD m i (ds.drop (j + 1))) := hr
        rw [(whole_in m i).mpr ⟨h0, h1⟩]
        (walk_at "dt go"; ((try rw [putAt_nil rfl]); (try dsimp only [back, List.set, wipeE])))
        (first | refine ite_d (fun c => ?_) fun c => ?_ | refine ite_nd (fun c => ?_) fun c => ?_ | refine ite_b (fun c => ?_) fun c => ?_)
        · have hj : 0 < j := by omega
          have hp : ds[j - 1]? = some (.int last) := by
            rcases hp with ⟨z, _⟩ | ⟨_, z⟩
            · omega
            · exact z
          (walk_at "dt go"; ((try rw [putAt_nil rfl]); (try dsimp only [back, List.set, wipeE])))
          refine ok_i (ix_e rfl rfl rfl (atI_nat (by omega) (by rw [show ((j : Int) - 1).toNat = j - 1 by omega]; exact hp))) ?_
          (walk_at "dt go"; ((try rw [putAt_nil rfl]); (try dsimp only [back, List.set, wipeE])))
          (first | refine ite_d (fun c2 => ?_) fun c2 => ?_ | refine ite_nd (fun c2 => ?_) fun c2 => ?_ | refine ite_b (fun c2 => ?_) fun c2 => ?_)
          · (walk_at "dt go"; ((try rw [putAt_nil rfl]); (try dsimp only [back, List.set, wipeE])))
            exact bad fun i' e => by cases e; omega
          · rw [decide_eq_true (p := last < i) (by omega), decide_eq_true h1, Bool.true_and, Bool.true_and] at hr
            (walk_at "dt go"; ((try rw [putAt_nil rfl]); (try dsimp only [back, List.set, wipeE])))
            exact hK _ ⟨i, rfl, hr, .inr ⟨by omega, hd⟩, by omega⟩
        · have hl : last = -1 := by
            rcases hp with ⟨_, z⟩ | ⟨z, _⟩
            · exact z
            · omega
          rw [decide_eq_true (p := last < i) (by omega), decide_eq_true h1, Bool.true_and, Bool.true_and] at hr
          (walk_at "dt go"; ((try rw [putAt_nil rfl]); (try dsimp only [back, List.set, wipeE])))
          exact hK _ ⟨i, rfl, hr, .inr ⟨by omega, hd⟩, by omega⟩
      · have hw : wholeB d 0 (m - 1) = false := by
          cases d with
          | int i =>
            cases q : wholeB (.int i) 0 (m - 1) with
            | false => rfl
            | true => exact absurd ⟨i, rfl, (whole_in m i).mp q⟩ hi
          | _ => rfl
        rw [hw]
        (walk_at "dt go"; ((try rw [putAt_nil rfl]); (try dsimp only [back, List.set, wipeE])))
        exact bad fun i e z => hi ⟨i, e, by omega, z.2⟩
    · rintro _ ⟨last, rfl, hr, _⟩
      rw [List.drop_of_length_le (by rw [enumD_len]; exact Nat.le_refl _)] at hr
      have hr : risD m (-1) ds = true := hr
      obtain ⟨ns, rfl, hn, hp⟩ := risD_ints hr
      rw [setE_yes hr] at k
      unfold setWrong at k
      (walk_at "dt go"; ((try rw [putAt_nil rfl]); (try dsimp only [back, List.set, wipeE])))
      have el : ((List.map PyData.int ns).length : Int) = (ns.length : Nat) := by rw [List.length_map]
      (first | refine ite_d (fun c => ?_) fun c => ?_ | refine ite_nd (fun c => ?_) fun c => ?_ | refine ite_b (fun c => ?_) fun c => ?_)
      · rw [if_pos (by rw [el] at c; omega)] at k
        (walk_at "dt go"; ((try rw [putAt_nil rfl]); (try dsimp only [back, List.set, wipeE])))
        exact k
      · rw [if_neg (by rw [el] at c; omega)] at k
        (walk_at "dt go"; ((try rw [putAt_nil rfl]); (try dsimp only [back, List.set, wipeE])))
        refine ok_i (sum_e (l := ns) rfl) ?_
        (walk_at "dt go"; ((try rw [putAt_nil rfl]); (try dsimp only [back, List.set, wipeE])))
        (first | refine ite_d (fun c2 => ?_) fun c2 => ?_ | refine ite_nd (fun c2 => ?_) fun c2 => ?_ | refine ite_b (fun c2 => ?_) fun c2 => ?_)
        · rw [if_pos (by omega)] at k
          (walk_at "dt go"; ((try rw [putAt_nil rfl]); (try dsimp only [back, List.set, wipeE])))
          exact k
        · rw [if_neg (by omega)] at k
          (walk_at "dt go"; ((try rw [putAt_nil rfl]); (try dsimp only [back, List.set, wipeE])))
          refine opK_i (dat2_e (d := .tuple (pis ns)) (e := .tuple (pis [])) rfl rfl (ne_t ns [])) ?_
          (walk_at "dt go"; ((try rw [putAt_nil rfl]); (try dsimp only [back, List.set, wipeE])))
          (first | refine ite_d (fun c3 => ?_) fun c3 => ?_ | refine ite_nd (fun c3 => ?_) fun c3 => ?_ | refine ite_b (fun c3 => ?_) fun c3 => ?_)
          · obtain ⟨i, ea, eh⟩ := head_ints c3
            obtain ⟨j, eb, el⟩ := last_ints c3
            rw [eh, el] at k
            (walk_at "dt go"; ((try rw [putAt_nil rfl]); (try dsimp only [back, List.set, wipeE])))
            refine ok_i (ix_e rfl rfl rfl ea) ?_
            (walk_at "dt go"; ((try rw [putAt_nil rfl]); (try dsimp only [back, List.set, wipeE])))
            (first | refine ite_d (fun c4 => ?_) fun c4 => ?_ | refine ite_nd (fun c4 => ?_) fun c4 => ?_ | refine ite_b (fun c4 => ?_) fun c4 => ?_)
            · (walk_at "dt go"; ((try rw [putAt_nil rfl]); (try dsimp only [back, List.set, wipeE])))
              refine ok_i (ix_e rfl rfl rfl eb) ?_
              (walk_at "dt go"; ((try rw [putAt_nil rfl]); (try dsimp only [back, List.set, wipeE])))
              (first | refine ite_d (fun c5 => ?_) fun c5 => ?_ | refine ite_nd (fun c5 => ?_) fun c5 => ?_ | refine ite_b (fun c5 => ?_) fun c5 => ?_)
              · rw [if_pos ⟨by rw [c4], by rw [c5]⟩] at k
                (walk_at "dt go"; ((try rw [putAt_nil rfl]); (try dsimp only [back, List.set, wipeE])))
                exact k
              · rw [if_neg fun z => c5 (Option.some.inj z.2)] at k
                (walk_at "dt go"; ((try rw [putAt_nil rfl]); (try dsimp only [back, List.set, wipeE])))
                exact k
            · rw [if_neg fun z => c4 (Option.some.inj z.1)] at k
              (walk_at "dt go"; ((try rw [putAt_nil rfl]); (try dsimp only [back, List.set, wipeE])))
              exact k
          · have c3 : ns = [] := by simpa using c3
            subst c3
            rw [if_neg (by simp)] at k
            (walk_at "dt go"; ((try rw [putAt_nil rfl]); (try dsimp only [back, List.set, wipeE])))
            exact k
  | _ =>
    walk_at "dt go"
    exact k
theorem ok_law_set_wrong {P : Program} {w : World} {K : Fg} {mg : Str → Option Value} {base : Heap} {T : Tbl} (E : Facts K mg T w) : FnG P w K mg base CX0 2 E.a_law_set_wrong E.d_law_set_wrong ["many", "value"] (spD K T 2 G_law_set_wrong) :=
  fnD (g := g_law_set_wrong) E.u_law_set_wrong sc_law_set_wrong T [false, false] rfl (by decide) (fun cdv A outer s H E0 vs hr hgd => by
    have hgd : (A.deeper (envOfC "_law_set_wrong" (defScope s_law_set_wrong) s.heap.objs.size E.a_law_set_wrong cdv)).guards = some [] := hgd
    exact (db_cons (ds_if (dt_not (dt_val (dv_isi (dn 1) rfl E.z_isinstance rfl E.z_tuple (by decide +kernel) (by simp)))) (db_one (ds_ret dv_str)) db_nil) (db_cons (ds_for [2, 3] PassesOwn.never rfl (di_enum rfl E.z_enumerate (da_cons (dn 1) da_nil)) (dg_tup rfl (dgs_cons (dg_name (i := 2) sc_law_set_wrong.nd rfl (by first | exact Or.inl rfl | exact Or.inr rfl) (noPinOf (by decide))) (dgs_cons (dg_name (i := 3) sc_law_set_wrong.nd rfl (by first | exact Or.inl rfl | exact Or.inr rfl) (noPinOf (by decide))) dgs_nil))) (db_one (ds_if (DWv.t (dw_or (dt_not (dt_val (dv_fn (ok_law_is_whole E) (hr.mono (j := 1) (by decide)) hgd rfl E.m_law_is_whole E.u_law_is_whole.kp (b_law_is_whole E) (da_cons (dn 3) (da_cons dv_int (da_cons (dv_fz (dv_op op_sub (sub_ok _) (dn 0) dv_int)) da_nil)))))) (dw_or1 (DWv.t (dw_and (dt_cmp op_gt (cmp_ok _ _) (dn 2) dv_int) (dw_and1 (dt_cmp op_le (cmp_ok _ _) (dn 3) (dv_ix (dn 1) (dv_op op_sub (sub_ok _) (dn 2) dv_int) (fun _ _ => rfl))))))))) (db_one (ds_ret dv_str)) db_nil))) (db_cons (ds_if (dt_cmp (op_neD (room_un hr _)) (ne_ok _) (dv_op op_mod (mod_ok _) (dv_callT call_int1 (int_ok _) rfl E.z_int (by decide +kernel) (da_cons (dv_call call_lenA (len_ok _) rfl E.z_len (by decide +kernel) (da_cons (dn 1) da_nil)) da_nil)) dv_int) (dv_op op_mod (mod_ok _) (dv_callT call_int1 (int_ok _) rfl E.z_int (by decide +kernel) (da_cons (dn 0) da_nil)) dv_int)) (db_one (ds_ret dv_str)) db_nil) (db_cons (ds_if (dt_cmp (op_neD (room_un hr _)) (ne_ok _) (dv_op op_mod (mod_ok _) (dv_callT call_int1 (int_ok _) rfl E.z_int (by decide +kernel) (da_cons (dv_call (call_sumA rfl) (sum_ok _) rfl E.z_sum (by decide +kernel) (da_cons (dn 1) da_nil)) da_nil)) dv_int) dv_int) (db_one (ds_ret dv_str)) db_nil) (db_one (ds_ret (dv_if (DWv.t (dw_and (dt_cmp (op_neD (room_un hr _)) (ne_ok _) (dn 1) (dv_tup da_nil)) (dw_and (dt_cmp (op_eqD (room_un hr _)) (eq_ok _) (dv_ix (dn 1) dv_int (fun _ _ => rfl)) dv_int) (dw_and1 (dt_cmp (op_eqD (room_un hr _)) (eq_ok _) (dv_ix (dn 1) (dv_neg dv_int) (fun _ _ => rfl)) (dv_op op_sub (sub_ok _) (dn 0) dv_int)))))) dv_str dv_none)))))))) P_law_set_wrong
/-! ### _law_halves: level 1, io [False, False, False], slots ['powers', 'items', 'parity'] -/
-- use: ⟨_, _, _, rfl, (by omega), (by omega), (by omega), ?_⟩
def G_law_halves : Dt.Spec := fun os Q => ∃ (n k p : Nat), os = [.fr (.list (pis (powL n))), .fr (.int k), .fr (.int p)] ∧ n ≤ 1000 ∧ k ≤ n ∧ p < 2 ∧ Q (.cl (.int (lotN k p))) [none, none, none]
def g_law_halves : DS := (gSeq (gIf (gTst (gOp (dat2 (eqD false)) (gVar 1) (gC (.int 0)))) (gRet (gIfE (gTst (gOp (dat2 (eqD false)) (gVar 2) (gC (.int 0)))) (gC (.int 1)) (gC (.int 0)))) gNext) (gRet (gOp ixR (gVar 0) (gOp (lift2 subO) (gVar 1) (gC (.int 1))))))
theorem P_law_halves : ∀ os Q0, os.length = 3 → G_law_halves os Q0 → g_law_halves (rtD [false, false, false] Q0) (startE 3 os) := by
  rintro _ Q0 - ⟨n, k, p, rfl, hn, hk, hp, h⟩
  rw [show startE 3 [OV.fr (.list (pis (powL n))), OV.fr (PyData.int k), OV.fr (PyData.int p)] = [some (.fr (.list (pis (powL n)))), some (.fr (.int k)), some (.fr (.int p))] from rfl]
  unfold g_law_halves
  unfold lotN at h
  (walk_at "dt go"; ((try rw [putAt_nil rfl]); (try dsimp only [back, List.set, wipeE])))
  refine ite_b (fun c => ?_) fun c => ?_
  · have c := of_decide_eq_true c
    rw [if_pos (by omega)] at h
    (walk_at "dt go"; ((try rw [putAt_nil rfl]); (try dsimp only [back, List.set, wipeE])))
    refine ite_b (fun c2 => ?_) fun c2 => ?_
    · have c2 := of_decide_eq_true c2
      rw [show 1 - p = 1 by omega] at h
      (walk_at "dt go"; ((try rw [putAt_nil rfl]); (try dsimp only [back, List.set, wipeE])))
      exact h
    · have c2 := of_decide_eq_false c2
      rw [show 1 - p = 0 by omega] at h
      (walk_at "dt go"; ((try rw [putAt_nil rfl]); (try dsimp only [back, List.set, wipeE])))
      exact h
  · have c := of_decide_eq_false c
    rw [if_neg (by omega)] at h
    (walk_at "dt go"; ((try rw [putAt_nil rfl]); (try dsimp only [back, List.set, wipeE])))
    rw [show (k : Int) - 1 = ((k - 1 : Nat) : Int) by omega]
    refine ok_i (ix_e rfl rfl rfl (powL_at (by omega))) ?_
    (walk_at "dt go"; ((try rw [putAt_nil rfl]); (try dsimp only [back, List.set, wipeE])))
    exact h
local macro_rules | `(tactic| walk_at "dt use") => `(tactic| ((with_reducible refine (show G_law_halves _ _ from ?_)); refine ⟨_, _, _, rfl, (by omega), (by omega), (by omega), ?_⟩))
theorem ok_law_halves {P : Program} {w : World} {K : Fg} {mg : Str → Option Value} {base : Heap} {T : Tbl} (E : Facts K mg T w) : FnG P w K mg base CX0 1 E.a_law_halves E.d_law_halves ["powers", "items", "parity"] (spD K T 3 G_law_halves) :=
  fnD (g := g_law_halves) E.u_law_halves sc_law_halves T [false, false, false] rfl (by decide) (fun cdv A outer s H E0 vs hr hgd => by
    have hgd : (A.deeper (envOfC "_law_halves" (defScope s_law_halves) s.heap.objs.size E.a_law_halves cdv)).guards = some [] := hgd
    exact (db_cons (ds_if (dt_cmp (op_eqD (room_un hr _)) (eq_ok _) (dn 1) dv_int) (db_one (ds_ret (dv_if (dt_cmp (op_eqD (room_un hr _)) (eq_ok _) (dn 2) dv_int) dv_int dv_int))) db_nil) (db_one (ds_ret (dv_ix (dn 0) (dv_op op_sub (sub_ok _) (dn 1) dv_int) (fun _ _ => rfl)))))) P_law_halves
/-! ### _law_after: level 2, io [False, False, False], slots ['powers', 'many', 'head', 'first', 'last', 'odds', 'evens', 'odd_need', 'even_need'] -/
def G_law_after : Dt.Spec := fun os Q => ∃ (m : Nat) (T : List Nat) (x : Nat), os = [.fr (.list (pis (powL m))), .fr (.int m), .fr (tI (Dt.cast (T ++ [x])))] ∧ (2 ≤ m ∧ m ≤ 1000 ∧ T.length ≤ 2000) ∧ (T ≠ [] → x ≠ 0) ∧ x < bndN m T x ∧ Q (.cl (.int (begN m T x ((m + T.length) % 2) (T.sum % 2)))) [none, none, none]
theorem cast_app (a b : List Nat) : Dt.cast (a ++ b) = Dt.cast a ++ Dt.cast b := List.map_append
theorem castI_sum (l : List Nat) : (Dt.cast l).sum = ((l.sum : Nat) : Int) := by
  induction l with
  | nil => rfl
  | cons a l ih =>
    rw [cast_cons, List.sum_cons, List.sum_cons, ih]
    omega
theorem lastC (T : List Nat) (x : Nat) : L2.atI (pis (Dt.cast (T ++ [x]))) (-1) = some (.int x) := by
  have hl : (pis (Dt.cast (T ++ [x]))).length = T.length + 1 := by rw [List.length_map]; show (List.map _ (T ++ [x])).length = _; rw [List.length_map, List.length_append]; rfl
  have e : (pis (Dt.cast (T ++ [x])))[T.length]? = some (.int x) := by
    show ((List.map _ (List.map _ (T ++ [x])))[T.length]?) = _
    rw [List.getElem?_map, List.getElem?_map, List.getElem?_append_right (Nat.le_refl _), Nat.sub_self]
    rfl
  unfold L2.atI
  rw [hl, show L2.ixN (T.length + 1) (-1) = some T.length by
    unfold L2.ixN
    rw [if_neg (by omega), if_pos (by omega)]
    exact congrArg some (by omega)]
  exact e
theorem bnd_first {m : Nat} {T : List Nat} {x : Nat} (hT : T ≠ [] → x ≠ 0) : bndN m T x = if (T ++ [x]).head? = some 0 then m - 1 else m := by
  unfold bndN
  cases T with
  | nil => simp
  | cons a l =>
    have := hT (by simp)
    simp [this]
def g_law_after : DS := (gSeq (gSet 3 (gFz (gIfE (gTst (gOp (dat2 (eqD true)) (gVar 2) (gN mkTup gNil))) (gOp (lift2 addO) (gOp ixR (gVar 2) (gNeg (gC (.int 1)))) (gC (.int 1))) (gC (.int 0))))) (gSeq (gSet 4 (gFz (gIfE (gAnd (gTst (gOp (dat2 (eqD true)) (gVar 2) (gN mkTup gNil))) (gTst (gOp (dat2 (eqD false)) (gOp ixR (gVar 2) (gC (.int 0))) (gC (.int 0))))) (gOp (lift2 subO) (gVar 1) (gC (.int 2))) (gOp (lift2 subO) (gVar 1) (gC (.int 1)))))) (gSeq (gSet 5 (gFz (gIfE (gTst (gOp (lift2 (cmpO fun i j => decide (j ≤ i))) (gVar 4) (gVar 3))) (gOp (lift2 subO) (gOp (lift2 (intO cDiv fun i j => i / j)) (gOp (lift2 addO) (gVar 4) (gC (.int 1))) (gC (.int 2))) (gOp (lift2 (intO cDiv fun i j => i / j)) (gVar 3) (gC (.int 2)))) (gC (.int 0))))) (gSeq (gSet 6 (gFz (gIfE (gTst (gOp (lift2 (cmpO fun i j => decide (j ≤ i))) (gVar 4) (gVar 3))) (gOp (lift2 subO) (gOp (lift2 (intO cDiv fun i j => i / j)) (gVar 4) (gC (.int 2))) (gOp (lift2 (intO cDiv fun i j => i / j)) (gOp (lift2 subO) (gVar 3) (gC (.int 1))) (gC (.int 2)))) (gC (.int 0))))) (gSeq (gSet 7 (gFz (gOp (lift2 (intO cMod fun i j => i % j)) (gN (dat1 intD) (gCons (gN (intsF fun is => some is.sum) (gCons (gVar 2) gNil)) gNil)) (gC (.int 2))))) (gSeq (gSet 8 (gFz (gOp (lift2 (intO cMod fun i j => i % j)) (gN (dat1 intD) (gCons (gOp (lift2 addO) (gOp (lift2 addO) (gVar 1) (gN lenR (gCons (gVar 2) gNil))) (gVar 7)) gNil)) (gC (.int 2))))) (gRet (gOp (lift2 (intO cMulW fun i j => i * j)) (gCall G_law_halves 3 (gCons (gVar 0) (gCons (gVar 5) (gCons (gVar 7) gNil)))) (gCall G_law_halves 3 (gCons (gVar 0) (gCons (gVar 6) (gCons (gVar 8) gNil))))))))))))
theorem P_law_after : ∀ os Q0, os.length = 3 → G_law_after os Q0 → g_law_after (rtD [false, false, false] Q0) (startE 9 os) := by
  rintro _ Q0 - ⟨m, T, x, rfl, ⟨h2, hm, hT⟩, hx0, hxb, k⟩
  rw [show startE 9 [OV.fr (.list (pis (powL m))), OV.fr (PyData.int m), OV.fr (tI (Dt.cast (T ++ [x])))] = [some (.fr (.list (pis (powL m)))), some (.fr (.int m)), some (.fr (tI (Dt.cast (T ++ [x])))), none, none, none, none, none, none] from rfl]
  have hb := bnd_first (m := m) hx0
  have hbm : bndN m T x ≤ m ∧ m - 1 ≤ bndN m T x := by unfold bndN; split <;> omega
  have hlast := lastC T x
  have hlen : (Dt.cast (T ++ [x])).length = T.length + 1 := by show (List.map _ (T ++ [x])).length = _; rw [List.length_map, List.length_append]; rfl
  have hsum : (Dt.cast (T ++ [x])).sum = ((T.sum + x : Nat) : Int) := by rw [castI_sum, List.sum_append, List.sum_cons, List.sum_nil]; rfl
  obtain ⟨a0, ha0, hh⟩ : ∃ a0 : Nat, L2.atI (pis (Dt.cast (T ++ [x]))) 0 = some (.int (a0 : Int)) ∧ (T ++ [x]).head? = some a0 := by
    cases T with
    | nil => exact ⟨x, rfl, rfl⟩
    | cons a l => exact ⟨a, atI_nat (by omega) rfl, rfl⟩
  have hne : ¬ Dt.cast (T ++ [x]) = [] := fun z => by rw [z] at hlen; simp at hlen
  rw [hh] at hb
  unfold begN at k
  rw [if_pos hxb] at k
  unfold g_law_after
  generalize Dt.cast (T ++ [x]) = D at *
  (walk_at "dt go"; ((try rw [putAt_nil rfl]); (try dsimp only [back, List.set, wipeE])))
  refine opK_i (dat2_e (d := .tuple (pis D)) (e := .tuple (pis [])) rfl rfl (ne_t D [])) ?_
  rw [show (!decide (D = [])) = true by rw [decide_eq_false hne]; rfl]
  (walk_at "dt go"; ((try rw [putAt_nil rfl]); (try dsimp only [back, List.set, wipeE])))
  refine ok_i (ix_e rfl rfl rfl hlast) ?_
  walk_at "dt gi"
  ((try rw [putAt_nil rfl]); (try dsimp only [back, List.set, wipeE]))
  refine g_cut (fun _ r ρ => r = .cl (.int ((bndN m T x : Int) - 1)) ∧ ρ = [some (.fr (.list (pis (powL m)))), some (.fr (.int m)), some (.fr (tI D)), some (.fr (.int ((x : Int) + 1))), none, none, none, none, none]) (fun K hK => ?_) ?_
  · (walk_at "dt go"; ((try rw [putAt_nil rfl]); (try dsimp only [back, List.set, wipeE])))
    refine opK_i (dat2_e (d := .tuple (pis D)) (e := .tuple (pis [])) rfl rfl (ne_t D [])) ?_
    rw [show (!decide (D = [])) = true by rw [decide_eq_false hne]; rfl]
    (walk_at "dt go"; ((try rw [putAt_nil rfl]); (try dsimp only [back, List.set, wipeE])))
    refine ok_i (ix_e rfl rfl rfl ha0) ?_
    (walk_at "dt go"; ((try rw [putAt_nil rfl]); (try dsimp only [back, List.set, wipeE])))
    refine ite_b (fun c => ?_) fun c => ?_
    · have c := of_decide_eq_true c
      rw [if_pos (congrArg some (by omega))] at hb
      (walk_at "dt go"; ((try rw [putAt_nil rfl]); (try dsimp only [back, List.set, wipeE])))
      refine hK _ _ _ ⟨?_, rfl⟩
      rw [hb, show (m : Int) - 2 = ((m - 1 : Nat) : Int) - 1 by omega]
    · have c := of_decide_eq_false c
      rw [if_neg (fun z => c (by have := Option.some.inj z; omega))] at hb
      (walk_at "dt go"; ((try rw [putAt_nil rfl]); (try dsimp only [back, List.set, wipeE])))
      refine hK _ _ _ ⟨?_, rfl⟩
      rw [hb]
  rintro _ _ _ ⟨rfl, rfl⟩
  generalize bndN m T x = b at *
  have hO : oddN (b - (x + 1)) (x + 1) = b / 2 - (x + 1) / 2 := by unfold oddN; rw [show x + 1 + (b - (x + 1)) = b by omega]
  unfold cntN at k
  rw [hO] at k
  walk_at "dt gi"
  ((try rw [putAt_nil rfl]); (try dsimp only [back, List.set, wipeE]))
  refine g_cut (fun _ r ρ => r = .cl (.int ((b / 2 - (x + 1) / 2 : Nat) : Int)) ∧ ρ = [some (.fr (.list (pis (powL m)))), some (.fr (.int m)), some (.fr (tI D)), some (.fr (.int ((x : Int) + 1))), some (.fr (.int ((b : Int) - 1))), none, none, none, none]) (fun K hK => ?_) ?_
  · (walk_at "dt go"; ((try rw [putAt_nil rfl]); (try dsimp only [back, List.set, wipeE])))
    refine ite_b (fun c => ?_) fun c => ?_
    · (walk_at "dt go"; ((try rw [putAt_nil rfl]); (try dsimp only [back, List.set, wipeE])))
      rw [show ((b : Int) - 1 + 1) / 2 - ((x : Int) + 1) / 2 = ((b / 2 - (x + 1) / 2 : Nat) : Int) by omega]
      exact hK _ _ _ ⟨rfl, rfl⟩
    · have c := of_decide_eq_false c
      (walk_at "dt go"; ((try rw [putAt_nil rfl]); (try dsimp only [back, List.set, wipeE])))
      refine hK _ _ _ ⟨?_, rfl⟩
      rw [show (b / 2 - (x + 1) / 2 : Nat) = 0 by omega]
      rfl
  rintro _ _ _ ⟨rfl, rfl⟩
  walk_at "dt gi"
  ((try rw [putAt_nil rfl]); (try dsimp only [back, List.set, wipeE]))
  refine g_cut (fun _ r ρ => r = .cl (.int ((b - (x + 1) - (b / 2 - (x + 1) / 2) : Nat) : Int)) ∧ ρ = [some (.fr (.list (pis (powL m)))), some (.fr (.int m)), some (.fr (tI D)), some (.fr (.int ((x : Int) + 1))), some (.fr (.int ((b : Int) - 1))), some (.fr (.int ((b / 2 - (x + 1) / 2 : Nat) : Int))), none, none, none]) (fun K hK => ?_) ?_
  · (walk_at "dt go"; ((try rw [putAt_nil rfl]); (try dsimp only [back, List.set, wipeE])))
    refine ite_b (fun c => ?_) fun c => ?_
    · (walk_at "dt go"; ((try rw [putAt_nil rfl]); (try dsimp only [back, List.set, wipeE])))
      rw [show ((b : Int) - 1) / 2 - ((x : Int) + 1 - 1) / 2 = ((b - (x + 1) - (b / 2 - (x + 1) / 2) : Nat) : Int) by omega]
      exact hK _ _ _ ⟨rfl, rfl⟩
    · have c := of_decide_eq_false c
      (walk_at "dt go"; ((try rw [putAt_nil rfl]); (try dsimp only [back, List.set, wipeE])))
      refine hK _ _ _ ⟨?_, rfl⟩
      rw [show (b - (x + 1) - (b / 2 - (x + 1) / 2) : Nat) = 0 by omega]
      rfl
  rintro _ _ _ ⟨rfl, rfl⟩
  (walk_at "dt go"; ((try rw [putAt_nil rfl]); (try dsimp only [back, List.set, wipeE])))
  refine ok_i (sum_e (l := D) rfl) ?_
  rw [hsum]
  (walk_at "dt go"; ((try rw [putAt_nil rfl]); (try dsimp only [back, List.set, wipeE])))
  rw [show (List.map PyData.int D).length = T.length + 1 by rw [List.length_map, hlen]]
  have e1 : ((T.sum + x : Nat) : Int) % 2 = (((T.sum % 2 + x) % 2 : Nat) : Int) := by omega
  rw [e1]
  have e2 : ((m : Int) + ((T.length + 1 : Nat) : Int) + (((T.sum % 2 + x) % 2 : Nat) : Int)) % 2 = (((1 - (m + T.length) % 2 + (T.sum % 2 + x) % 2) % 2 : Nat) : Int) := by omega
  rw [e2]
  have hlot : ∀ i p, i ≤ 1000 → lotN i p < 2 ^ 2000 := fun i p hi => by
    unfold lotN
    split
    · exact Nat.lt_of_le_of_lt (Nat.sub_le 1 p) (Nat.lt_of_lt_of_le (by omega : 1 < 2 ^ 1) (Nat.pow_le_pow_right (by omega) (by omega)))
    · exact Nat.pow_lt_pow_right (by omega) (by omega)
  have g1 := hlot (b / 2 - (x + 1) / 2) ((T.sum % 2 + x) % 2) (by omega)
  have g2 := hlot (b - (x + 1) - (b / 2 - (x + 1) / 2)) ((1 - (m + T.length) % 2 + (T.sum % 2 + x) % 2) % 2) (by omega)
  rw [Int.natCast_mul] at k
  (walk_at "dt go"; ((try rw [putAt_nil rfl]); (try dsimp only [back, List.set, wipeE])))
  refine opK_i (lift2_e rfl rfl (intO_e (mulW_e g1 g2))) ?_
  (walk_at "dt go"; ((try rw [putAt_nil rfl]); (try dsimp only [back, List.set, wipeE])))
  exact k
theorem ok_law_after {P : Program} {w : World} {K : Fg} {mg : Str → Option Value} {base : Heap} {T : Tbl} (E : Facts K mg T w) : FnG P w K mg base CX0 2 E.a_law_after E.d_law_after ["powers", "many", "head"] (spD K T 3 G_law_after) :=
  fnD (g := g_law_after) E.u_law_after sc_law_after T [false, false, false] rfl (by decide) (fun cdv A outer s H E0 vs hr hgd => by
    have hgd : (A.deeper (envOfC "_law_after" (defScope s_law_after) s.heap.objs.size E.a_law_after cdv)).guards = some [] := hgd
    exact (db_cons (ds_set (i := 3) sc_law_after.nd rfl (by first | exact Or.inl rfl | exact Or.inr rfl) (dv_fz (dv_if (dt_cmp (op_neD (room_un hr _)) (ne_ok _) (dn 2) (dv_tup da_nil)) (dv_op op_addA (addA_ok _) (dv_ix (dn 2) (dv_neg dv_int) (fun _ _ => rfl)) dv_int) dv_int)) (noPinOf (by decide))) (db_cons (ds_set (i := 4) sc_law_after.nd rfl (by first | exact Or.inl rfl | exact Or.inr rfl) (dv_fz (dv_if (DWv.t (dw_and (dt_cmp (op_neD (room_un hr _)) (ne_ok _) (dn 2) (dv_tup da_nil)) (dw_and1 (dt_cmp (op_eqD (room_un hr _)) (eq_ok _) (dv_ix (dn 2) dv_int (fun _ _ => rfl)) dv_int)))) (dv_op op_sub (sub_ok _) (dn 1) dv_int) (dv_op op_sub (sub_ok _) (dn 1) dv_int))) (noPinOf (by decide))) (db_cons (ds_set (i := 5) sc_law_after.nd rfl (by first | exact Or.inl rfl | exact Or.inr rfl) (dv_fz (dv_if (dt_cmp op_ge (cmp_ok _ _) (dn 4) (dn 3)) (dv_op op_sub (sub_ok _) (dv_op op_fdiv (div_ok _) (dv_op op_addA (addA_ok _) (dn 4) dv_int) dv_int) (dv_op op_fdiv (div_ok _) (dn 3) dv_int)) dv_int)) (noPinOf (by decide))) (db_cons (ds_set (i := 6) sc_law_after.nd rfl (by first | exact Or.inl rfl | exact Or.inr rfl) (dv_fz (dv_if (dt_cmp op_ge (cmp_ok _ _) (dn 4) (dn 3)) (dv_op op_sub (sub_ok _) (dv_op op_fdiv (div_ok _) (dn 4) dv_int) (dv_op op_fdiv (div_ok _) (dv_op op_sub (sub_ok _) (dn 3) dv_int) dv_int)) dv_int)) (noPinOf (by decide))) (db_cons (ds_set (i := 7) sc_law_after.nd rfl (by first | exact Or.inl rfl | exact Or.inr rfl) (dv_fz (dv_op op_mod (mod_ok _) (dv_callT call_int1 (int_ok _) rfl E.z_int (by decide +kernel) (da_cons (dv_call (call_sumA rfl) (sum_ok _) rfl E.z_sum (by decide +kernel) (da_cons (dn 2) da_nil)) da_nil)) dv_int)) (noPinOf (by decide))) (db_cons (ds_set (i := 8) sc_law_after.nd rfl (by first | exact Or.inl rfl | exact Or.inr rfl) (dv_fz (dv_op op_mod (mod_ok _) (dv_callT call_int1 (int_ok _) rfl E.z_int (by decide +kernel) (da_cons (dv_op op_addA (addA_ok _) (dv_op op_addA (addA_ok _) (dn 1) (dv_call call_lenA (len_ok _) rfl E.z_len (by decide +kernel) (da_cons (dn 2) da_nil))) (dn 7)) da_nil)) dv_int)) (noPinOf (by decide))) (db_one (ds_ret (dv_op op_mulD2 (mulW_ok _) (dv_fn (ok_law_halves E) (hr.mono (j := 1) (by decide)) hgd rfl E.m_law_halves E.u_law_halves.kp (b_law_halves E) (da_cons (dn 0) (da_cons (dn 5) (da_cons (dn 7) da_nil)))) (dv_fn (ok_law_halves E) (hr.mono (j := 1) (by decide)) hgd rfl E.m_law_halves E.u_law_halves.kp (b_law_halves E) (da_cons (dn 0) (da_cons (dn 6) (da_cons (dn 8) da_nil)))))))))))))) P_law_after
/-! ### _law_ahead: level 3, io [False, False, False], slots ['powers', 'many', 'chosen', 'found', 'place', 'head', 'item'] -/
def G_law_ahead : Dt.Spec := fun os Q => ∃ (m k : Nat) (R : List Nat), os = [.fr (.list (pis (powL m))), .fr (.int m), .fr (tI (Dt.cast R))] ∧ (2 ≤ m ∧ m ≤ 1000) ∧ (setsE m)[k]? = some R ∧ Q (.cl (.int k)) [none, none, none]
def lowT (T : List Nat) : Nat := match T.getLast? with
  | some y => y + 1
  | none => 0
theorem lowT_snoc (T : List Nat) (x : Nat) : lowT (T ++ [x]) = x + 1 := by
  unfold lowT
  rw [List.getLast?_concat]
theorem lowT_ne {T : List Nat} (h : T ≠ []) : lowT T ≠ 0 := by
  unfold lowT
  cases e : T.getLast? with
  | none => exact absurd (List.getLast?_eq_none_iff.mp e) h
  | some y => exact Nat.succ_ne_zero y
theorem tI_inj2 {a b : List Int} (h : tI a = tI b) : a = b := (List.map_inj_right fun _ _ e => PyData.int.inj e).mp (PyData.tuple.inj h)
theorem pre_set {m : Nat} (h2 : 2 ≤ m) {R : List Nat} (hR : R ∈ setsE m) {j : Nat} (hj : j ≤ R.length) : setE m (tI (Dt.cast (R.take j))) = .none ↔ (m + j) % 2 = 0 ∧ (R.take j).sum % 2 = 0 := by
  have hl : (R.take j).length = j := by rw [List.length_take]; omega
  constructor
  · intro h
    obtain ⟨C, e, o⟩ := setE_is h
    have e := tI_inj2 e
    subst e
    have p := o.par
    have v := o.even
    rw [show (Dt.cast (R.take j)).length = (R.take j).length from List.length_map .., hl] at p
    rw [castI_sum] at v
    omega
  · rintro ⟨h1, h3⟩
    obtain ⟨p1, p2, p3, p4, p5⟩ := (mem_setsE h2).mp hR
    exact ((setsE_odd h2).mpr ⟨R.take j, (mem_setsE h2).mpr ⟨p1.sublist (List.take_sublist ..), fun y hy => p2 y (List.mem_of_mem_take hy), by rw [hl]; omega, h3, fun z => p5 ⟨List.mem_of_mem_take z.1, List.mem_of_mem_take z.2⟩⟩, rfl⟩).none
def g_law_ahead : DS := (gSeq (gSet 3 (gC (.int 0))) (gSeq (gFor (giRng1 (gCons (gN lenR (gCons (gVar 2) gNil)) gNil)) (tgName 4) [4, 5, 6] (gSeq (gSet 5 (gFz (gSlice (gVar 2) gNoPart (gPart (gVar 4))))) (gSeq (gIf (gTst (gOp (dat2 (isND false)) (gCall G_law_set_wrong 2 (gCons (gVar 1) (gCons (gVar 5) gNil))) (gC .none))) (gSet 3 (gFz (gOp (lift2 addO) (gVar 3) (gC (.int 1))))) gNext) (gFor (giRng2 (gCons (gIfE (gTst (gOp (dat2 (eqD true)) (gVar 5) (gN mkTup gNil))) (gOp (lift2 addO) (gOp ixR (gVar 5) (gNeg (gC (.int 1)))) (gC (.int 1))) (gC (.int 0))) (gCons (gOp ixR (gVar 2) (gVar 4)) gNil))) (tgName 6) [6] (gSet 3 (gFz (gOp (lift2 addO) (gVar 3) (gCall G_law_after 3 (gCons (gVar 0) (gCons (gVar 1) (gCons (gFz (gOp (lift2 addO) (gVar 5) (gN mkTup (gCons (gVar 6) gNil)))) gNil))))))))))) (gRet (gVar 3))))
theorem P_law_ahead : ∀ os Q0, os.length = 3 → G_law_ahead os Q0 → g_law_ahead (rtD [false, false, false] Q0) (startE 7 os) := by
  rintro _ Q0 - ⟨m, kk, R, rfl, ⟨h2, hm⟩, hR, k⟩
  have hmem := List.mem_of_getElem? hR
  have hodd := (setsE_odd h2).mpr ⟨R, hmem, rfl⟩
  have hsub := hodd.sub.length_le
  rw [len_rangeI] at hsub
  have hlen : (Dt.cast R).length = R.length := List.length_map ..
  rw [show startE 7 [OV.fr (.list (pis (powL m))), OV.fr (PyData.int m), OV.fr (tI (Dt.cast R))] = [some (.fr (.list (pis (powL m)))), some (.fr (.int m)), some (.fr (tI (Dt.cast R))), none, none, none, none] from rfl]
  unfold g_law_ahead
  (walk_at "dt go"; ((try rw [putAt_nil rfl]); (try dsimp only [back, List.set, wipeE])))
  rw [show (List.map PyData.int (Dt.cast R)).length = R.length by rw [List.length_map, hlen]]
  refine rng1 (b62 (by omega) (by omega)) ?_
  rw [rangeD_ints, Int.toNat_natCast]
  refine forL_inv (fun j ρ => ∃ (a r : Nat), a + r = kk ∧ (eN ((m + j) % 2) ((R.take j).sum % 2) ++ cmpN m (R.take j) (lowT (R.take j)) ((m + j) % 2) ((R.take j).sum % 2))[r]? = some (R.drop j) ∧ ρ = [some (.fr (.list (pis (powL m)))), some (.fr (.int m)), some (.fr (tI (Dt.cast R))), some (.fr (.int a)), none, none, none]) ⟨0, kk, by omega, hR, rfl⟩ ?_ ?_
  · rintro j y _ hx ⟨a, r, har, hr, rfl⟩ K hK
    obtain ⟨i, rfl, hi⟩ := ints_get hx
    obtain ⟨rfl, hjl⟩ := rangeI_get hi
    clear hx hi
    obtain ⟨x, hxR⟩ : ∃ x, R[j]? = some x := ⟨_, List.getElem?_eq_getElem hjl⟩
    have hxm := ((mem_setsE h2).mp hmem).2.1 x (List.mem_of_getElem? hxR)
    have hTl : (R.take j).length = j := by rw [List.length_take]; omega
    have hd : R.drop j = x :: R.drop (j + 1) := by
      rw [List.drop_eq_getElem_cons hjl]
      rw [List.getElem?_eq_getElem hjl] at hxR
      rw [Option.some.inj hxR]
    have hps := pre_set h2 hmem (Nat.le_of_lt hjl)
    rw [hd] at hr
    obtain ⟨r1, e1, hr1⟩ := pre_at (by simp) hr
    have hs : (m + j) % 2 < 2 := by omega
    have ht : (R.take j).sum % 2 < 2 := by omega
    have hlx : lowT (R.take j) ≤ x := by
      obtain ⟨b, r', e, hb⟩ := cmpN_head h2 hs ht (List.mem_of_getElem? hr1)
      obtain ⟨rfl, _⟩ := List.cons.inj e
      exact hb
    obtain ⟨r2, e2, hr2, hlt⟩ := beg_sum h2 hs ht (x - lowT (R.take j)) (lowT (R.take j)) r1 (by omega) lowT_ne hr1
    have hTx : R.take j ≠ [] → x ≠ 0 := fun z => by have := lowT_ne z; omega
    rw [blkN_cmp hTx] at hr2
    rw [tk_snoc hxR] at hK
    have hcut : Dt.cutD (List.map PyData.int (Dt.cast R)) none (some (0 + (j : Int))) = List.map PyData.int (Dt.cast (R.take j)) := by
      rw [Int.zero_add]
      refine (cut_take _ j).trans ?_
      show _ = List.map _ (List.map _ (R.take j))
      rw [List.map_take, List.map_take]
      rfl
    have hix : L2.atI (List.map PyData.int (Dt.cast R)) (0 + (j : Int)) = some (.int x) := atI_nat (by omega) (by
      rw [show ((0 : Int) + j).toNat = j by omega]
      show (List.map _ (List.map _ R))[j]? = _
      rw [List.getElem?_map, List.getElem?_map, hxR]
      rfl)
    have hK2 : ∀ (a3 : Nat) (o4 o5 o6 : Option OV), a3 + r2 = kk → K [some (.fr (.list (pis (powL m)))), some (.fr (.int m)), some (.fr (tI (Dt.cast R))), some (.fr (.int a3)), o4, o5, o6] := fun a3 o4 o5 o6 h => by
      refine hK _ ⟨a3, r2, h, ?_, rfl⟩
      rw [lowT_snoc, List.sum_append, List.sum_cons, List.sum_nil, show (m + (j + 1)) % 2 = 1 - (m + j) % 2 by omega, show ((R.take j).sum + (x + 0)) % 2 = ((R.take j).sum % 2 + x) % 2 by omega]
      exact hr2
    clear hK hr hr1 hr2 hd
    have hbeg : ∀ i, i < x - lowT (R.take j) → lowT (R.take j) + i < bndN m (R.take j) (lowT (R.take j) + i) := fun i hi => by
      have h1 : x ≤ m - 1 := by omega
      unfold bndN
      split <;> omega
    generalize hT : R.take j = T at *
    walk_at "dt gi"
    rw [hcut]
    ((try rw [putAt_nil rfl]); (try dsimp only [back, List.set, wipeE]))
    refine s_cut (fun ρ => ∃ a2 : Nat, (a2 : Int) = a + (if decide ((m + j) % 2 = 0 ∧ T.sum % 2 = 0) = true then 1 else 0) ∧ ρ = [some (.fr (.list (pis (powL m)))), some (.fr (.int m)), some (.fr (tI (Dt.cast R))), some (.fr (.int a2)), some (.fr (.int (0 + (j : Int)))), some (.fr (tI (Dt.cast T))), none]) (fun K3 hK3 => ?_) ?_
    · (walk_at "dt go"; ((try rw [putAt_nil rfl]); (try dsimp only [back, List.set, wipeE])))
      refine ⟨m, _, rfl, ?_⟩
      by_cases q : (m + j) % 2 = 0 ∧ T.sum % 2 = 0
      · rw [hps.mpr q]
        rw [if_pos (decide_eq_true q)] at hK3
        (walk_at "dt go"; ((try rw [putAt_nil rfl]); (try dsimp only [back, List.set, wipeE])))
        exact hK3 _ ⟨a + 1, by omega, rfl⟩
      · rw [if_neg (by simpa using q)] at hK3
        have hnn : setE m (tI (Dt.cast T)) ≠ .none := fun z => q (hps.mp z)
        generalize setE m (tI (Dt.cast T)) = v at hnn
        cases v with
        | none => exact absurd rfl hnn
        | _ =>
          (walk_at "dt go"; ((try rw [putAt_nil rfl]); (try dsimp only [back, List.set, wipeE])))
          exact hK3 _ ⟨a, by omega, rfl⟩
    rintro _ ⟨a2, ea2, rfl⟩
    walk_at "dt gi"
    ((try rw [putAt_nil rfl]); (try dsimp only [back, List.set, wipeE]))
    refine g_cut (fun _ r ρ => r = .cl (.int (lowT T : Nat)) ∧ ρ = [some (.fr (.list (pis (powL m)))), some (.fr (.int m)), some (.fr (tI (Dt.cast R))), some (.fr (.int a2)), some (.fr (.int (0 + (j : Int)))), some (.fr (tI (Dt.cast T))), none]) (fun K3 hK3 => ?_) ?_
    · rcases List.eq_nil_or_concat T with e | ⟨T0, y, e⟩
      · rw [e] at hK3 ⊢
        (walk_at "dt go"; ((try rw [putAt_nil rfl]); (try dsimp only [back, List.set, wipeE])))
        refine opK_i (dat2_e (d := .tuple (pis [])) (e := .tuple (pis [])) rfl rfl (ne_t [] [])) ?_
        (walk_at "dt go"; ((try rw [putAt_nil rfl]); (try dsimp only [back, List.set, wipeE])))
        exact hK3 _ _ _ ⟨rfl, rfl⟩
      · rw [List.concat_eq_append] at e
        have hne : ¬ Dt.cast T = [] := fun z => by
          have : (Dt.cast T).length = T.length := List.length_map ..
          rw [z, e, List.length_append] at this
          simp at this
        have hla := lastC T0 y
        rw [← e] at hla
        have hlw := lowT_snoc T0 y
        rw [← e] at hlw
        rw [hlw] at hK3
        generalize Dt.cast T = D at *
        (walk_at "dt go"; ((try rw [putAt_nil rfl]); (try dsimp only [back, List.set, wipeE])))
        refine opK_i (dat2_e (d := .tuple (pis D)) (e := .tuple (pis [])) rfl rfl (ne_t D [])) ?_
        rw [show (!decide (D = [])) = true by rw [decide_eq_false hne]; rfl]
        (walk_at "dt go"; ((try rw [putAt_nil rfl]); (try dsimp only [back, List.set, wipeE])))
        refine ok_i (ix_e rfl rfl rfl hla) ?_
        (walk_at "dt go"; ((try rw [putAt_nil rfl]); (try dsimp only [back, List.set, wipeE])))
        exact hK3 _ _ _ ⟨rfl, rfl⟩
    rintro _ _ _ ⟨rfl, rfl⟩
    (walk_at "dt go"; ((try rw [putAt_nil rfl]); (try dsimp only [back, List.set, wipeE])))
    refine ok_i (ix_e rfl rfl rfl hix) ?_
    (walk_at "dt go"; ((try rw [putAt_nil rfl]); (try dsimp only [back, List.set, wipeE])))
    refine rng2 (b62 (by omega) (by omega)) (b62 (by omega) (by omega)) ?_
    rw [rangeD_ints, show ((x : Int) - (lowT T : Nat)).toNat = x - lowT T by omega]
    refine forL_inv (fun i ρ => ρ = [some (.fr (.list (pis (powL m)))), some (.fr (.int m)), some (.fr (tI (Dt.cast R))), some (.fr (.int ((a2 + ((List.range i).map fun i => begN m T (lowT T + i) ((m + j) % 2) (T.sum % 2)).sum : Nat) : Int))), some (.fr (.int (0 + (j : Int)))), some (.fr (tI (Dt.cast T))), none]) rfl ?_ ?_
    · rintro i y _ hx rfl K3 hK3
      obtain ⟨z, rfl, hz⟩ := ints_get hx
      obtain ⟨rfl, hi⟩ := rangeI_get hz
      clear hx hz
      rw [List.range_succ, List.map_append, List.sum_append, List.map_singleton, List.sum_cons, List.sum_nil, Nat.add_zero, ← Nat.add_assoc] at hK3
      generalize a2 + ((List.range i).map fun i => begN m T (lowT T + i) ((m + j) % 2) (T.sum % 2)).sum = w at *
      have hTl2 : (Dt.cast T).length ≤ 1000 := by rw [show (Dt.cast T).length = T.length from List.length_map ..]; omega
      have hpl : pis (Dt.cast T) ++ [PyData.int ((lowT T : Nat) + (i : Int))] = pis (Dt.cast (T ++ [lowT T + i])) := by
        rw [cast_app]
        show _ = List.map _ (_ ++ _)
        rw [List.map_append]
        rfl
      (walk_at "dt go"; ((try rw [putAt_nil rfl]); (try dsimp only [back, List.set, wipeE])))
      refine ok_i (lift2_e rfl rfl (addT (by rw [List.length_map, sizeLine_eq]; show _ + 1 ≤ _; omega))) ?_
      rw [hpl]
      (walk_at "dt go"; ((try rw [putAt_nil rfl]); (try dsimp only [back, List.set, wipeE])))
      refine ⟨m, T, lowT T + i, rfl, ⟨h2, hm, by omega⟩, fun h => by have := lowT_ne h; omega, hbeg i hi, ?_⟩
      rw [hTl]
      (walk_at "dt go"; ((try rw [putAt_nil rfl]); (try dsimp only [back, List.set, wipeE])))
      exact hK3 _ rfl
    · rintro _ rfl
      rw [List.length_map, len_rangeI]
      (walk_at "dt go"; ((try rw [putAt_nil rfl]); (try dsimp only [back, List.set, wipeE])))
      refine hK2 _ _ _ _ ?_
      omega
  · rintro _ ⟨a, r, har, hr, rfl⟩
    rw [List.length_map, len_rangeI, List.take_length, List.drop_length] at hr
    have r0 := end_at h2 (by omega) (by omega) hr
    subst r0
    rw [Nat.add_zero] at har
    subst har
    (walk_at "dt go"; ((try rw [putAt_nil rfl]); (try dsimp only [back, List.set, wipeE])))
    exact k
theorem ok_law_ahead {P : Program} {w : World} {K : Fg} {mg : Str → Option Value} {base : Heap} {T : Tbl} (E : Facts K mg T w) : FnG P w K mg base CX0 3 E.a_law_ahead E.d_law_ahead ["powers", "many", "chosen"] (spD K T 3 G_law_ahead) :=
  fnD (g := g_law_ahead) E.u_law_ahead sc_law_ahead T [false, false, false] rfl (by decide) (fun cdv A outer s H E0 vs hr hgd => by
    have hgd : (A.deeper (envOfC "_law_ahead" (defScope s_law_ahead) s.heap.objs.size E.a_law_ahead cdv)).guards = some [] := hgd
    exact (db_cons (ds_set (i := 3) sc_law_ahead.nd rfl (by first | exact Or.inl rfl | exact Or.inr rfl) dv_int (noPinOf (by decide))) (db_cons (ds_for [4, 5, 6] PassesOwn.never rfl (di_range1 rfl E.z_range (da_cons (dv_call call_lenA (len_ok _) rfl E.z_len (by decide +kernel) (da_cons (dn 2) da_nil)) da_nil)) (dg_name (i := 4) sc_law_ahead.nd rfl (by first | exact Or.inl rfl | exact Or.inr rfl) (noPinOf (by decide))) (db_cons (ds_set (i := 5) sc_law_ahead.nd rfl (by first | exact Or.inl rfl | exact Or.inr rfl) (dv_fz (dv_slice (dn 2) do_none (do_some (dn 4)))) (noPinOf (by decide))) (db_cons (ds_if (dt_cmp op_isN (isN_ok _) (dv_fn (ok_law_set_wrong E) (hr.mono (j := 2) (by decide)) hgd rfl E.m_law_set_wrong E.u_law_set_wrong.kp (b_law_set_wrong E) (da_cons (dn 1) (da_cons (dn 5) da_nil))) dv_none) (db_one (ds_set (i := 3) sc_law_ahead.nd rfl (by first | exact Or.inl rfl | exact Or.inr rfl) (dv_fz (dv_op op_addA (addA_ok _) (dn 3) dv_int)) (noPinOf (by decide)))) db_nil) (db_one (ds_for [6] PassesOwn.never rfl (di_range2 rfl E.z_range (da_cons (dv_if (dt_cmp (op_neD (room_un hr _)) (ne_ok _) (dn 5) (dv_tup da_nil)) (dv_op op_addA (addA_ok _) (dv_ix (dn 5) (dv_neg dv_int) (fun _ _ => rfl)) dv_int) dv_int) (da_cons (dv_ix (dn 2) (dn 4) (fun _ _ => rfl)) da_nil))) (dg_name (i := 6) sc_law_ahead.nd rfl (by first | exact Or.inl rfl | exact Or.inr rfl) (noPinOf (by decide))) (db_one (ds_set (i := 3) sc_law_ahead.nd rfl (by first | exact Or.inl rfl | exact Or.inr rfl) (dv_fz (dv_op op_addA (addA_ok _) (dn 3) (dv_fn (ok_law_after E) (hr.mono (j := 2) (by decide)) hgd rfl E.m_law_after E.u_law_after.kp (b_law_after E) (da_cons (dn 0) (da_cons (dn 1) (da_cons (dv_fz (dv_op op_addA (addA_ok _) (dn 5) (dv_tup (da_cons (dn 6) da_nil)))) da_nil)))))) (noPinOf (by decide))))))))) (db_one (ds_ret (dn 3)))))) P_law_ahead
/-! ### law: level 5, io [False], slots ['script', 'jar', 'is_great', 'turn', 'many', 'powers', 'whole', 'chosen', 'place', 'spot', 'one', 'other'] -/
def G_law : Dt.Spec := fun os Q => ∃ ns : List Int, os = [.scr ns] ∧ ns.length ≤ 63 ∧ Q (.cl (.bool true)) [none]
theorem law_true (ns : List Int) (h : ns.length ≤ 63) : G_law [.scr ns] fun r _ => r = .cl (.bool true) := ⟨ns, rfl, h, rfl⟩
theorem set_ord {m a b : Nat} (h2 : 2 ≤ m) {X Y : List Nat} (h : a < b) (hX : (setsE m)[a]? = some X) (hY : (setsE m)[b]? = some Y) : ltl (Dt.cast X) (Dt.cast Y) = true := by
  obtain ⟨h1, rfl⟩ := List.getElem?_eq_some_iff.mp hX
  obtain ⟨h3, rfl⟩ := List.getElem?_eq_some_iff.mp hY
  exact List.pairwise_iff_getElem.mp (setsE_ord h2) a b h1 h3 h
def g_law : DS := (gSeq (gSet 1 (gCall G_law_jar 1 (gCons (gVar 0) gNil))) (gSeq (gSet 2 (gOp (dat2 (eqD false)) (gCall G_law_draw 2 (gCons (gVar 1) (gCons (gC (.int 4)) gNil))) (gC (.int 0)))) (gSeq (gFor (giRng1 (gCons (gIfE (gTst (gVar 2)) (gC (.int 1)) (gC (.int 2))) gNil)) (tgName 3) [3, 4, 5, 6, 7, 8, 9, 10, 11] (gSeq (gSet 4 (gFz (gIfE (gTst (gVar 2)) (gCall G_law_pick 2 (gCons (gVar 1) (gCons (gFz (gN mkLst (gCons (gC (.int 999)) (gCons (gC (.int 1000)) gNil)))) gNil))) (gOp (lift2 addO) (gC (.int 8)) (gCall G_law_draw 2 (gCons (gVar 1) (gCons (gFz (gCall G_law_pick 2 (gCons (gVar 1) (gCons (gFz (gN mkLst (gCons (gC (.int 40)) (gCons (gC (.int 120)) (gCons (gC (.int 200)) gNil))))) gNil)))) gNil))))))) (gSeq (gSet 5 (gFz (gCall G_law_powers 1 (gCons (gVar 4) gNil)))) (gSeq (gSet 6 (gFz (gOp (lift2 mulO) (gC (.int 3)) (gOp ixR (gVar 5) (gOp (lift2 subO) (gVar 4) (gC (.int 4))))))) (gSeq (gIf (gTst (gOp (dat2 (eqD true)) (gCall G_set_count 1 (gCons (gVar 4) gNil)) (gVar 6))) (gRet (gC (.bool false))) gNext) (gSeq (gSet 7 (gFz (gCall G_law_far_set 2 (gCons (gVar 1) (gCons (gVar 4) gNil))))) (gSeq (gSet 8 (gFz (gCall G_number_of_set 2 (gCons (gVar 4) (gCons (gVar 7) gNil))))) (gSeq (gIf (gOr (gTst (gOp (dat2 (eqD true)) (gVar 8) (gCall G_law_ahead 3 (gCons (gVar 5) (gCons (gVar 4) (gCons (gVar 7) gNil)))))) (gTst (gOp (dat2 (eqD true)) (gN (dat1 reprD) (gCons (gCall G_set_at 2 (gCons (gVar 4) (gCons (gVar 8) gNil))) gNil)) (gN (dat1 reprD) (gCons (gVar 7) gNil))))) (gRet (gC (.bool false))) gNext) (gSeq (gIf (gTst (gVar 2)) (gRet (gC (.bool true))) gNext) (gSeq (gSet 9 (gFz (gCall G_law_pick 2 (gCons (gVar 1) (gCons (gFz (gN mkLst (gCons (gC (.int 0)) (gCons (gFz (gOp (lift2 subO) (gVar 6) (gC (.int 2)))) (gCons (gFz (gCall G_law_draw 2 (gCons (gVar 1) (gCons (gFz (gOp (lift2 subO) (gVar 6) (gC (.int 1)))) gNil)))) (gCons (gFz (gCall G_law_draw 2 (gCons (gVar 1) (gCons (gC (.int 5)) gNil)))) gNil)))))) gNil))))) (gSeq (gPar 10 11 (gCons (gFz (gCall G_set_at 2 (gCons (gVar 4) (gCons (gVar 9) gNil)))) (gCons (gFz (gCall G_set_at 2 (gCons (gVar 4) (gCons (gFz (gOp (lift2 addO) (gVar 9) (gC (.int 1)))) gNil)))) gNil))) (gSeq (gIf (gOr (gTst (gOp (dat2 (isND true)) (gCall G_law_set_wrong 2 (gCons (gVar 4) (gCons (gVar 10) gNil))) (gC .none))) (gOr (gTst (gOp (dat2 (isND true)) (gCall G_law_set_wrong 2 (gCons (gVar 4) (gCons (gVar 11) gNil))) (gC .none))) (gTst (gOp (lift2 geTO) (gVar 10) (gVar 11))))) (gRet (gC (.bool false))) gNext) (gIf (gTst (gOp (dat2 (eqD true)) (gN mkLst (gCons (gFz (gCall G_number_of_set 2 (gCons (gVar 4) (gCons (gVar 10) gNil)))) (gCons (gFz (gCall G_number_of_set 2 (gCons (gVar 4) (gCons (gVar 11) gNil)))) gNil))) (gN mkLst (gCons (gVar 9) (gCons (gFz (gOp (lift2 addO) (gVar 9) (gC (.int 1)))) gNil))))) (gRet (gC (.bool false))) gNext))))))))))))) (gRet (gC (.bool true))))))
theorem P_law : ∀ os Q0, os.length = 1 → G_law os Q0 → g_law (rtD [false] Q0) (startE 12 os) := by
  rintro _ Q0 - ⟨ns, rfl, hns, k⟩
  rw [show startE 12 [OV.scr ns] = [some (.scr ns), none, none, none, none, none, none, none, none, none, none, none] from rfl]
  unfold g_law
  (walk_at "dt go"; ((try rw [putAt_nil rfl]); (try dsimp only [back, List.set, wipeE])))
  refine ⟨ns, rfl, hns, ?_⟩
  (walk_at "dt go"; ((try rw [putAt_nil rfl]); (try dsimp only [back, List.set, wipeE])))
  refine ⟨0, 4, rfl, ⟨by omega, by omega, by omega⟩, fun r r0 r1 => ?_⟩
  walk_at "dt gi"
  ((try rw [putAt_nil rfl]); (try dsimp only [back, List.set, wipeE]))
  obtain ⟨g, hg⟩ : ∃ g : Bool, g = decide (r = 0) := ⟨_, rfl⟩
  rw [← hg]
  clear hg r0 r1
  refine g_cut (fun _ r ρ => ∃ x : Int, r = .cl (.int x) ∧ (0 < x ∧ x ≤ 2) ∧ ρ = [none, some (.opq (jarC 1)), some (.fr (.bool g)), none, none, none, none, none, none, none, none, none]) (fun K hK => ?_) ?_
  · cases g with
    | true =>
      (walk_at "dt go"; ((try rw [putAt_nil rfl]); (try dsimp only [back, List.set, wipeE])))
      exact hK _ _ _ ⟨1, rfl, by omega, rfl⟩
    | false =>
      (walk_at "dt go"; ((try rw [putAt_nil rfl]); (try dsimp only [back, List.set, wipeE])))
      exact hK _ _ _ ⟨2, rfl, by omega, rfl⟩
  rintro _ _ _ ⟨x, rfl, hx, rfl⟩
  (walk_at "dt go"; ((try rw [putAt_nil rfl]); (try dsimp only [back, List.set, wipeE])))
  refine rng1 (b62 (by omega) (by omega)) ?_
  rw [rangeD_ints]
  refine forL_inv (fun j ρ => ∃ (n : Nat) (o3 o4 o5 o6 o7 o8 o9 o10 o11 : Option OV), n ≤ 1 + 100 * j ∧ ρ = [none, some (.opq (jarC n)), some (.fr (.bool g)), o3, o4, o5, o6, o7, o8, o9, o10, o11]) ⟨1, _, _, _, _, _, _, _, _, _, by omega, rfl⟩ ?_ ?_
  · rintro j y _ hy ⟨n, o3, o4, o5, o6, o7, o8, o9, o10, o11, hn, rfl⟩ K hK
    obtain ⟨turn, rfl, ht⟩ := ints_get hy
    obtain ⟨rfl, hj⟩ := rangeI_get ht
    have hj : j < 2 := by omega
    clear hy ht
    walk_at "dt gi"
    ((try rw [putAt_nil rfl]); (try dsimp only [back, List.set, wipeE]))
    refine g_cut (fun _ r ρ => ∃ (n2 m : Nat), r = .cl (.int m) ∧ n2 ≤ n + 5 ∧ (8 ≤ m ∧ m ≤ 1000) ∧ ρ = [none, some (.opq (jarC n2)), some (.fr (.bool g)), some (.fr (.int (0 + (j : Int)))), o4, o5, o6, o7, o8, o9, o10, o11]) (fun K hK => ?_) ?_
    · cases g with
      | true =>
        (walk_at "dt go"; ((try rw [putAt_nil rfl]); (try dsimp only [back, List.set, wipeE])))
        refine ⟨n, _, _, rfl, by omega, .inl rfl, by decide, fun d hd => ?_⟩
        obtain ⟨z, hz, hzm⟩ := mem_ints (l := [999, 1000]) hd
        subst hz
        obtain ⟨m, rfl, hm⟩ : ∃ m : Nat, z = (m : Int) ∧ (8 ≤ m ∧ m ≤ 1000) := by
          have : ∀ z ∈ ([999, 1000] : List Int), 8 ≤ z ∧ z ≤ 1000 := by decide
          exact ⟨z.toNat, by have := this z hzm; omega, by have := this z hzm; omega⟩
        (walk_at "dt go"; ((try rw [putAt_nil rfl]); (try dsimp only [back, List.set, wipeE])))
        exact hK _ _ _ ⟨n + 1, m, rfl, by omega, hm, rfl⟩
      | false =>
        (walk_at "dt go"; ((try rw [putAt_nil rfl]); (try dsimp only [back, List.set, wipeE])))
        refine ⟨n, _, _, rfl, by omega, .inl rfl, by decide, fun d hd => ?_⟩
        obtain ⟨z, hz, hzm⟩ := mem_ints (l := [40, 120, 200]) hd
        subst hz
        have hz2 : 1 ≤ z ∧ z ≤ 200 := by
          have : ∀ z ∈ ([40, 120, 200] : List Int), 1 ≤ z ∧ z ≤ 200 := by decide
          exact this z hzm
        (walk_at "dt go"; ((try rw [putAt_nil rfl]); (try dsimp only [back, List.set, wipeE])))
        refine ⟨n + 1, z, rfl, ⟨by omega, by omega, by omega⟩, fun r r0 r1 => ?_⟩
        obtain ⟨m, em, hm⟩ : ∃ m : Nat, 8 + r = (m : Int) ∧ (8 ≤ m ∧ m ≤ 1000) := ⟨(8 + r).toNat, by omega, by omega⟩
        walk_at "dt gi"
        ((try rw [putAt_nil rfl]); (try dsimp only [back, List.set, wipeE]))
        rw [em]
        exact hK _ _ _ ⟨n + 1 + 1, m, rfl, by omega, hm, rfl⟩
    rintro _ _ _ ⟨n2, m, rfl, hn2, ⟨h8, hm⟩, rfl⟩
    have hN : (setsE m).length = 3 * 2 ^ (m - 4) := by rw [setsE_len (by omega), if_neg (by omega)]
    have hN16 : 48 ≤ 3 * 2 ^ (m - 4) := by
      have : 2 ^ 4 ≤ 2 ^ (m - 4) := Nat.pow_le_pow_right (by omega) (by omega)
      omega
    (walk_at "dt go"; ((try rw [putAt_nil rfl]); (try dsimp only [back, List.set, wipeE])))
    rw [show (m : Int) - 4 = ((m - 4 : Nat) : Int) by omega]
    refine opK_i (ix_e rfl rfl rfl (powL_at (by omega))) ?_
    (walk_at "dt go"; ((try rw [putAt_nil rfl]); (try dsimp only [back, List.set, wipeE])))
    rw [show (3 : Int) * ((2 ^ (m - 4) : Nat) : Int) = ((3 * 2 ^ (m - 4) : Nat) : Int) by omega, ← hN]
    have hlog : ((3 * 2 ^ (m - 4) : Nat) : Int).natAbs < 2 ^ 2000 := by
      rw [Int.natAbs_natCast, show 2 ^ 2000 = 4 * 2 ^ 1998 by rw [show 2000 = 1998 + 2 by rfl, Nat.pow_add]; omega]
      have : 2 ^ (m - 4) ≤ 2 ^ 1998 := Nat.pow_le_pow_right (by omega) (by omega)
      have : 0 < 2 ^ 1998 := Nat.pow_pos (by omega)
      omega
    rw [← hN] at hlog hN16
    generalize hNN : (setsE m).length = N at *
    (walk_at "dt go"; ((try rw [putAt_nil rfl]); (try dsimp only [back, List.set, wipeE])))
    rw [decide_eq_true (rfl : (N : Int) = N)]
    (walk_at "dt go"; ((try rw [putAt_nil rfl]); (try dsimp only [back, List.set, wipeE])))
    refine ⟨n2, m, rfl, by omega, ⟨h8, hm⟩, fun n3 R hn3 hR hRl => ?_⟩
    obtain ⟨kk, hkk⟩ := List.mem_iff_getElem?.mp hR
    have hTl : Tl 2 12 (tI (Dt.cast R)) := by
      have hmem := ((mem_setsE (by omega : 2 ≤ m)).mp hR).2.1
      refine Tl.tI (n := 1000) (k := 12) (fun q hq => ?_) (by omega) ?_
      · obtain ⟨z, hz, rfl⟩ := List.mem_map.mp hq
        have := hmem z hz
        omega
      · rw [show (Dt.cast R).length = R.length from List.length_map ..]; omega
    (walk_at "dt go"; ((try rw [putAt_nil rfl]); (try dsimp only [back, List.set, wipeE])))
    refine ⟨m, kk, R, rfl, by omega, hkk, ?_⟩
    (walk_at "dt go"; ((try rw [putAt_nil rfl]); (try dsimp only [back, List.set, wipeE])))
    refine ⟨m, kk, R, rfl, by omega, hkk, ?_⟩
    (walk_at "dt go"; ((try rw [putAt_nil rfl]); (try dsimp only [back, List.set, wipeE])))
    rw [decide_eq_true (rfl : (kk : Int) = kk)]
    (walk_at "dt go"; ((try rw [putAt_nil rfl]); (try dsimp only [back, List.set, wipeE])))
    refine ⟨m, kk, R, rfl, by omega, hkk, ?_⟩
    generalize hD : tI (Dt.cast R) = D at *
    clear hD
    (walk_at "dt go"; ((try rw [putAt_nil rfl]); (try dsimp only [back, List.set, wipeE])))
    cases g with
    | true =>
      (walk_at "dt go"; ((try rw [putAt_nil rfl]); (try dsimp only [back, List.set, wipeE])))
      exact k
    | false =>
      (walk_at "dt go"; ((try rw [putAt_nil rfl]); (try dsimp only [back, List.set, wipeE])))
      have hlg : ((N : Int) - 1).natAbs.log2 < 9000 := Nat.lt_trans (PySem.Flt.log2_lt_of (k := 2000) (by omega) (by omega)) (by omega)
      refine ⟨n3, _, rfl, ⟨by omega, by omega, .inr hlg⟩, fun u u0 u1 => ?_⟩
      (walk_at "dt go"; ((try rw [putAt_nil rfl]); (try dsimp only [back, List.set, wipeE])))
      refine ⟨n3 + 1, 5, rfl, ⟨by omega, by omega, by omega⟩, fun v v0 v1 => ?_⟩
      (walk_at "dt go"; ((try rw [putAt_nil rfl]); (try dsimp only [back, List.set, wipeE])))
      refine ⟨n3 + 1 + 1, _, [.int 0, .int ((N : Int) - 2), .int u, .int v], rfl, by omega, .inl rfl, ⟨by show 0 < 4; omega, by show 4 < 1073741824; omega⟩, fun d hd => ?_⟩
      obtain ⟨s, rfl, hs⟩ : ∃ s : Nat, d = .int (s : Int) ∧ s + 1 < N := by
        have : ∀ z : Int, 0 ≤ z → z + 1 < N → ∃ s : Nat, PyData.int z = .int (s : Int) ∧ s + 1 < N := fun z h0 h1 => ⟨z.toNat, congrArg PyData.int (by omega), by omega⟩
        simp only [List.mem_cons, List.not_mem_nil, or_false] at hd
        rcases hd with rfl | rfl | rfl | rfl
        · exact this _ (by omega) (by omega)
        · exact this _ (by omega) (by omega)
        · exact this _ (by omega) (by omega)
        · exact this _ (by omega) (by omega)
      clear hd hkk hR hRl hlog hlg
      obtain ⟨X, hX⟩ : ∃ X, (setsE m)[s]? = some X := ⟨_, List.getElem?_eq_getElem (by omega)⟩
      obtain ⟨Y, hY⟩ : ∃ Y, (setsE m)[s + 1]? = some Y := ⟨_, List.getElem?_eq_getElem (by omega)⟩
      have hlt := set_ord (m := m) (by omega) (Nat.lt_succ_self s) hX hY
      have oX := ((setsE_odd (by omega : 2 ≤ m)).mpr ⟨X, List.mem_of_getElem? hX, rfl⟩).none
      have oY := ((setsE_odd (by omega : 2 ≤ m)).mpr ⟨Y, List.mem_of_getElem? hY, rfl⟩).none
      (walk_at "dt go"; ((try rw [putAt_nil rfl]); (try dsimp only [back, List.set, wipeE])))
      refine ⟨m, s, X, rfl, by omega, hX, ?_⟩
      (walk_at "dt go"; ((try rw [putAt_nil rfl]); (try dsimp only [back, List.set, wipeE])))
      refine ⟨m, s + 1, Y, rfl, by omega, hY, ?_⟩
      (walk_at "dt go"; ((try rw [putAt_nil rfl]); (try dsimp only [back, List.set, wipeE])))
      refine ⟨m, _, rfl, ?_⟩
      rw [oX]
      (walk_at "dt go"; ((try rw [putAt_nil rfl]); (try dsimp only [back, List.set, wipeE])))
      refine ⟨m, _, rfl, ?_⟩
      rw [oY]
      (walk_at "dt go"; ((try rw [putAt_nil rfl]); (try dsimp only [back, List.set, wipeE])))
      refine opK_i (lift2_e rfl rfl (geTO_e (Dt.cast X) (Dt.cast Y))) ?_
      rw [hlt]
      (walk_at "dt go"; ((try rw [putAt_nil rfl]); (try dsimp only [back, List.set, wipeE])))
      refine ⟨m, s, X, rfl, by omega, hX, ?_⟩
      (walk_at "dt go"; ((try rw [putAt_nil rfl]); (try dsimp only [back, List.set, wipeE])))
      refine ⟨m, s + 1, Y, rfl, by omega, hY, ?_⟩
      (walk_at "dt go"; ((try rw [putAt_nil rfl]); (try dsimp only [back, List.set, wipeE])))
      refine opK_i (dat2_e (d := .list (pis [(s : Int), (s : Int) + 1])) (e := .list (pis [(s : Int), (s : Int) + 1])) rfl rfl (ne_l _ _)) ?_
      rw [show (!decide ([(s : Int), (s : Int) + 1] = [(s : Int), (s : Int) + 1])) = false by rw [decide_eq_true rfl]; rfl]
      (walk_at "dt go"; ((try rw [putAt_nil rfl]); (try dsimp only [back, List.set, wipeE])))
      exact hK _ ⟨n3 + 1 + 1 + 1, _, _, _, _, _, _, _, _, _, by omega, rfl⟩
  · rintro _ ⟨n, o3, o4, o5, o6, o7, o8, o9, o10, o11, hn, rfl⟩
    (walk_at "dt go"; ((try rw [putAt_nil rfl]); (try dsimp only [back, List.set, wipeE])))
    exact k
theorem ok_law {P : Program} {w : World} {K : Fg} {mg : Str → Option Value} {base : Heap} {T : Tbl} (E : Facts K mg T w) : FnG P w K mg base CX0 5 E.a_law E.d_law ["script"] (spD K T 1 G_law) :=
  fnD (g := g_law) E.u_law sc_law T [false] rfl (by decide) (fun cdv A outer s H E0 vs hr hgd => by
    have hgd : (A.deeper (envOfC "law" (defScope s_law) s.heap.objs.size E.a_law cdv)).guards = some [] := hgd
    exact (db_cons (ds_set (i := 1) sc_law.nd rfl (by first | exact Or.inl rfl | exact Or.inr rfl) (dv_fn (ok_law_jar E) (hr.mono (j := 1) (by decide)) hgd rfl E.m_law_jar E.u_law_jar.kp (b_law_jar E) (da_cons (dn 0) da_nil)) (noPinOf (by decide))) (db_cons (ds_set (i := 2) sc_law.nd rfl (by first | exact Or.inl rfl | exact Or.inr rfl) (dv_cmp (op_eqD (room_un hr _)) (eq_ok _) (dv_fn (ok_law_draw E) (hr.mono (j := 1) (by decide)) hgd rfl E.m_law_draw E.u_law_draw.kp (b_law_draw E) (da_cons (dn 1) (da_cons dv_int da_nil))) dv_int) (noPinOf (by decide))) (db_cons (ds_for [3, 4, 5, 6, 7, 8, 9, 10, 11] PassesOwn.never rfl (di_range1 rfl E.z_range (da_cons (dv_if (dt_val (dn 2)) dv_int dv_int) da_nil)) (dg_name (i := 3) sc_law.nd rfl (by first | exact Or.inl rfl | exact Or.inr rfl) (noPinOf (by decide))) (db_cons (ds_set (i := 4) sc_law.nd rfl (by first | exact Or.inl rfl | exact Or.inr rfl) (dv_fz (dv_if (dt_val (dn 2)) (dv_fn (ok_law_pick E) (hr.mono (j := 2) (by decide)) hgd rfl E.m_law_pick E.u_law_pick.kp (b_law_pick E) (da_cons (dn 1) (da_cons (dv_fz (dv_lst (da_cons dv_int (da_cons dv_int da_nil)))) da_nil))) (dv_op op_addA (addA_ok _) dv_int (dv_fn (ok_law_draw E) (hr.mono (j := 1) (by decide)) hgd rfl E.m_law_draw E.u_law_draw.kp (b_law_draw E) (da_cons (dn 1) (da_cons (dv_fz (dv_fn (ok_law_pick E) (hr.mono (j := 2) (by decide)) hgd rfl E.m_law_pick E.u_law_pick.kp (b_law_pick E) (da_cons (dn 1) (da_cons (dv_fz (dv_lst (da_cons dv_int (da_cons dv_int (da_cons dv_int da_nil))))) da_nil)))) da_nil)))))) (noPinOf (by decide))) (db_cons (ds_set (i := 5) sc_law.nd rfl (by first | exact Or.inl rfl | exact Or.inr rfl) (dv_fz (dv_fn (ok_law_powers E) (hr.mono (j := 1) (by decide)) hgd rfl E.m_law_powers E.u_law_powers.kp (b_law_powers E) (da_cons (dn 4) da_nil))) (noPinOf (by decide))) (db_cons (ds_set (i := 6) sc_law.nd rfl (by first | exact Or.inl rfl | exact Or.inr rfl) (dv_fz (dv_op op_mulA (mulA_ok _) dv_int (dv_ix (dn 5) (dv_op op_sub (sub_ok _) (dn 4) dv_int) (fun _ _ => rfl)))) (noPinOf (by decide))) (db_cons (ds_if (dt_cmp (op_neD (room_un hr _)) (ne_ok _) (dv_fn (ok_set_count E) (hr.mono (j := 2) (by decide)) hgd rfl E.m_set_count E.u_set_count.kp (b_set_count E) (da_cons (dn 4) da_nil)) (dn 6)) (db_one (ds_ret dv_bool)) db_nil) (db_cons (ds_set (i := 7) sc_law.nd rfl (by first | exact Or.inl rfl | exact Or.inr rfl) (dv_fz (dv_fn (ok_law_far_set E) (hr.mono (j := 2) (by decide)) hgd rfl E.m_law_far_set E.u_law_far_set.kp (b_law_far_set E) (da_cons (dn 1) (da_cons (dn 4) da_nil)))) (noPinOf (by decide))) (db_cons (ds_set (i := 8) sc_law.nd rfl (by first | exact Or.inl rfl | exact Or.inr rfl) (dv_fz (dv_fn (ok_number_of_set E) (hr.mono (j := 4) (by decide)) hgd rfl E.m_number_of_set E.u_number_of_set.kp (b_number_of_set E) (da_cons (dn 4) (da_cons (dn 7) da_nil)))) (noPinOf (by decide))) (db_cons (ds_if (DWv.t (dw_or (dt_cmp (op_neD (room_un hr _)) (ne_ok _) (dn 8) (dv_fn (ok_law_ahead E) (hr.mono (j := 3) (by decide)) hgd rfl E.m_law_ahead E.u_law_ahead.kp (b_law_ahead E) (da_cons (dn 5) (da_cons (dn 4) (da_cons (dn 7) da_nil))))) (dw_or1 (dt_cmp (op_neD (room_un hr _)) (ne_ok _) (dv_call (call_repr hgd (room_un hr _)) (repr_ok _) rfl E.z_repr (by decide +kernel) (da_cons (dv_fn (ok_set_at E) (hr.mono (j := 4) (by decide)) hgd rfl E.m_set_at E.u_set_at.kp (b_set_at E) (da_cons (dn 4) (da_cons (dn 8) da_nil))) da_nil)) (dv_call (call_repr hgd (room_un hr _)) (repr_ok _) rfl E.z_repr (by decide +kernel) (da_cons (dn 7) da_nil)))))) (db_one (ds_ret dv_bool)) db_nil) (db_cons (ds_if (dt_val (dn 2)) (db_one (ds_ret dv_bool)) db_nil) (db_cons (ds_set (i := 9) sc_law.nd rfl (by first | exact Or.inl rfl | exact Or.inr rfl) (dv_fz (dv_fn (ok_law_pick E) (hr.mono (j := 2) (by decide)) hgd rfl E.m_law_pick E.u_law_pick.kp (b_law_pick E) (da_cons (dn 1) (da_cons (dv_fz (dv_lst (da_cons dv_int (da_cons (dv_fz (dv_op op_sub (sub_ok _) (dn 6) dv_int)) (da_cons (dv_fz (dv_fn (ok_law_draw E) (hr.mono (j := 1) (by decide)) hgd rfl E.m_law_draw E.u_law_draw.kp (b_law_draw E) (da_cons (dn 1) (da_cons (dv_fz (dv_op op_sub (sub_ok _) (dn 6) dv_int)) da_nil)))) (da_cons (dv_fz (dv_fn (ok_law_draw E) (hr.mono (j := 1) (by decide)) hgd rfl E.m_law_draw E.u_law_draw.kp (b_law_draw E) (da_cons (dn 1) (da_cons dv_int da_nil)))) da_nil)))))) da_nil)))) (noPinOf (by decide))) (db_cons (ds_par2 (i := 10) (j := 11) rfl sc_law.nd rfl rfl (by decide) (noPinOf (by decide)) (noPinOf (by decide)) rfl rfl (da_cons (dv_fz (dv_fn (ok_set_at E) (hr.mono (j := 4) (by decide)) hgd rfl E.m_set_at E.u_set_at.kp (b_set_at E) (da_cons (dn 4) (da_cons (dn 9) da_nil)))) (da_cons (dv_fz (dv_fn (ok_set_at E) (hr.mono (j := 4) (by decide)) hgd rfl E.m_set_at E.u_set_at.kp (b_set_at E) (da_cons (dn 4) (da_cons (dv_fz (dv_op op_addA (addA_ok _) (dn 9) dv_int)) da_nil)))) da_nil))) (db_cons (ds_if (DWv.t (dw_or (dt_cmp op_notN (notN_ok _) (dv_fn (ok_law_set_wrong E) (hr.mono (j := 2) (by decide)) hgd rfl E.m_law_set_wrong E.u_law_set_wrong.kp (b_law_set_wrong E) (da_cons (dn 4) (da_cons (dn 10) da_nil))) dv_none) (dw_or (dt_cmp op_notN (notN_ok _) (dv_fn (ok_law_set_wrong E) (hr.mono (j := 2) (by decide)) hgd rfl E.m_law_set_wrong E.u_law_set_wrong.kp (b_law_set_wrong E) (da_cons (dn 4) (da_cons (dn 11) da_nil))) dv_none) (dw_or1 (dt_cmp (op_geT (room_un hr 0)) (geT_ok _) (dn 10) (dn 11)))))) (db_one (ds_ret dv_bool)) db_nil) (db_one (ds_if (dt_cmp (op_neD (room_un hr _)) (ne_ok _) (dv_lst (da_cons (dv_fz (dv_fn (ok_number_of_set E) (hr.mono (j := 4) (by decide)) hgd rfl E.m_number_of_set E.u_number_of_set.kp (b_number_of_set E) (da_cons (dn 4) (da_cons (dn 10) da_nil)))) (da_cons (dv_fz (dv_fn (ok_number_of_set E) (hr.mono (j := 4) (by decide)) hgd rfl E.m_number_of_set E.u_number_of_set.kp (b_number_of_set E) (da_cons (dn 4) (da_cons (dn 11) da_nil)))) da_nil))) (dv_lst (da_cons (dn 9) (da_cons (dv_fz (dv_op op_addA (addA_ok _) (dn 9) dv_int)) da_nil)))) (db_one (ds_ret dv_bool)) db_nil)))))))))))))) (db_one (ds_ret dv_bool)))))) P_law
theorem all_mk {l : PySem.W.OpenLaw} {w : World} {K : Fg} {h : Heap} {mg : Str → Option Value} {fa : Addr} (X : K.In h) (G : h.Ns mainGlobals mg) (hfa : mg "law" = some (.ref fa))
    {c_Taking : Addr} (aC_Taking : PySem.W.nsIn K mainGlobals "Taking" = some (some (.ref c_Taking))) (pg_Taking : PySem.W.plainGet K c_Taking Str.empty = true) (hd_Taking : PySem.W.hasDictIn K c_Taking = true) (po_Taking : PySem.W.plainOver K c_Taking = true) (sa_Taking : PySem.W.findIn K (.ref c_Taking) "__setattr__" = some (some (.builtin "object.__setattr__")))
    (mk_Taking : PySem.W.makesIn K c_Taking = true) (kc_Taking : PySem.W.keepIn K (.ref c_Taking) = true)
    (na_Taking_many : PySem.W.findIn K (.ref c_Taking) "many" = some none)
    (na_Taking_powers : PySem.W.findIn K (.ref c_Taking) "powers" = some none)
    (na_Taking_size : PySem.W.findIn K (.ref c_Taking) "size" = some none)
    (na_Taking_taken : PySem.W.findIn K (.ref c_Taking) "taken" = some none)
    (na_Taking_total : PySem.W.findIn K (.ref c_Taking) "total" = some none)
    {f0 : Addr} {od0 an0 : Option Addr} {sl0 : Array (Option Value)} {oc0 kV0 dc0 pm0 cd0 ct0 : Value}
    (a0 : PySem.W.nsIn K mainGlobals "_law_jar" = some (some (.ref f0)))
    (l0 : K.lookup f0 = some ⟨oc0, od0, .func (PySem.W.fnOf "_law_jar" "_law_jar" (defArgs s_law_jar) (defBody s_law_jar) (defScope s_law_jar) .none kV0 dc0 pm0 an0 cd0 ct0), sl0⟩) (c0 : PySem.W.codeIn K cd0 "_law_jar" = true) (k0 : PySem.W.keepIn K (.ref f0) = true)
    {f1 : Addr} {od1 an1 : Option Addr} {sl1 : Array (Option Value)} {oc1 kV1 dc1 pm1 cd1 ct1 : Value}
    (a1 : PySem.W.nsIn K mainGlobals "_law_draw" = some (some (.ref f1)))
    (l1 : K.lookup f1 = some ⟨oc1, od1, .func (PySem.W.fnOf "_law_draw" "_law_draw" (defArgs s_law_draw) (defBody s_law_draw) (defScope s_law_draw) .none kV1 dc1 pm1 an1 cd1 ct1), sl1⟩) (c1 : PySem.W.codeIn K cd1 "_law_draw" = true) (k1 : PySem.W.keepIn K (.ref f1) = true)
    {f2 : Addr} {od2 an2 : Option Addr} {sl2 : Array (Option Value)} {oc2 kV2 dc2 pm2 cd2 ct2 : Value}
    (a2 : PySem.W.nsIn K mainGlobals "_law_powers" = some (some (.ref f2)))
    (l2 : K.lookup f2 = some ⟨oc2, od2, .func (PySem.W.fnOf "_law_powers" "_law_powers" (defArgs s_law_powers) (defBody s_law_powers) (defScope s_law_powers) .none kV2 dc2 pm2 an2 cd2 ct2), sl2⟩) (c2 : PySem.W.codeIn K cd2 "_law_powers" = true) (k2 : PySem.W.keepIn K (.ref f2) = true)
    {f3 : Addr} {od3 an3 : Option Addr} {sl3 : Array (Option Value)} {oc3 kV3 dc3 pm3 cd3 ct3 : Value}
    (a3 : PySem.W.nsIn K mainGlobals "_law_far_set" = some (some (.ref f3)))
    (l3 : K.lookup f3 = some ⟨oc3, od3, .func (PySem.W.fnOf "_law_far_set" "_law_far_set" (defArgs s_law_far_set) (defBody s_law_far_set) (defScope s_law_far_set) .none kV3 dc3 pm3 an3 cd3 ct3), sl3⟩) (c3 : PySem.W.codeIn K cd3 "_law_far_set" = true) (k3 : PySem.W.keepIn K (.ref f3) = true)
    {f4 : Addr} {od4 an4 : Option Addr} {sl4 : Array (Option Value)} {oc4 kV4 dc4 pm4 cd4 ct4 : Value}
    (a4 : PySem.W.findIn K (.ref c_Taking) "take" = some (some (.ref f4))) (i4 : PySem.W.isFn K (.ref f4) = true)
    (l4 : K.lookup f4 = some ⟨oc4, od4, .func (PySem.W.fnOf "take" "Taking.take" (defArgs s_Taking_take) (defBody s_Taking_take) (defScope s_Taking_take) .none kV4 dc4 pm4 an4 cd4 ct4), sl4⟩) (c4 : PySem.W.codeIn K cd4 "Taking.take" = true) (k4 : PySem.W.keepIn K (.ref f4) = true)
    {f5 : Addr} {od5 an5 : Option Addr} {sl5 : Array (Option Value)} {oc5 kV5 dc5 pm5 cd5 ct5 : Value}
    (a5 : PySem.W.nsIn K mainGlobals "is_integer" = some (some (.ref f5)))
    (l5 : K.lookup f5 = some ⟨oc5, od5, .func (PySem.W.fnOf "is_integer" "is_integer" (defArgs s_is_integer) (defBody s_is_integer) (defScope s_is_integer) .none kV5 dc5 pm5 an5 cd5 ct5), sl5⟩) (c5 : PySem.W.codeIn K cd5 "is_integer" = true) (k5 : PySem.W.keepIn K (.ref f5) = true)
    {f6 : Addr} {od6 an6 : Option Addr} {sl6 : Array (Option Value)} {oc6 kV6 dc6 pm6 cd6 ct6 : Value}
    (a6 : PySem.W.nsIn K mainGlobals "is_rising" = some (some (.ref f6)))
    (l6 : K.lookup f6 = some ⟨oc6, od6, .func (PySem.W.fnOf "is_rising" "is_rising" (defArgs s_is_rising) (defBody s_is_rising) (defScope s_is_rising) .none kV6 dc6 pm6 an6 cd6 ct6), sl6⟩) (c6 : PySem.W.codeIn K cd6 "is_rising" = true) (k6 : PySem.W.keepIn K (.ref f6) = true)
    {f7 : Addr} {od7 an7 : Option Addr} {sl7 : Array (Option Value)} {oc7 kV7 dc7 pm7 cd7 ct7 : Value}
    (a7 : PySem.W.nsIn K mainGlobals "set_error" = some (some (.ref f7)))
    (l7 : K.lookup f7 = some ⟨oc7, od7, .func (PySem.W.fnOf "set_error" "set_error" (defArgs s_set_error) (defBody s_set_error) (defScope s_set_error) .none kV7 dc7 pm7 an7 cd7 ct7), sl7⟩) (c7 : PySem.W.codeIn K cd7 "set_error" = true) (k7 : PySem.W.keepIn K (.ref f7) = true)
    {f8 : Addr} {od8 an8 : Option Addr} {sl8 : Array (Option Value)} {oc8 kV8 dc8 pm8 cd8 ct8 : Value}
    (a8 : PySem.W.nsIn K mainGlobals "doublings" = some (some (.ref f8)))
    (l8 : K.lookup f8 = some ⟨oc8, od8, .func (PySem.W.fnOf "doublings" "doublings" (defArgs s_doublings) (defBody s_doublings) (defScope s_doublings) .none kV8 dc8 pm8 an8 cd8 ct8), sl8⟩) (c8 : PySem.W.codeIn K cd8 "doublings" = true) (k8 : PySem.W.keepIn K (.ref f8) = true)
    {f9 : Addr} {od9 an9 : Option Addr} {sl9 : Array (Option Value)} {oc9 kV9 dc9 pm9 cd9 ct9 : Value}
    (a9 : PySem.W.findIn K (.ref c_Taking) "__init__" = some (some (.ref f9))) (i9 : PySem.W.isFn K (.ref f9) = true)
    (l9 : K.lookup f9 = some ⟨oc9, od9, .func (PySem.W.fnOf "__init__" "Taking.__init__" (defArgs s_Taking_init) (defBody s_Taking_init) (defScope s_Taking_init) .none kV9 dc9 pm9 an9 cd9 ct9), sl9⟩) (c9 : PySem.W.codeIn K cd9 "Taking.__init__" = true) (k9 : PySem.W.keepIn K (.ref f9) = true)
    {f10 : Addr} {od10 an10 : Option Addr} {sl10 : Array (Option Value)} {oc10 kV10 dc10 pm10 cd10 ct10 : Value}
    (a10 : PySem.W.findIn K (.ref c_Taking) "is_set" = some (some (.ref f10))) (i10 : PySem.W.isFn K (.ref f10) = true)
    (l10 : K.lookup f10 = some ⟨oc10, od10, .func (PySem.W.fnOf "is_set" "Taking.is_set" (defArgs s_Taking_is_set) (defBody s_Taking_is_set) (defScope s_Taking_is_set) .none kV10 dc10 pm10 an10 cd10 ct10), sl10⟩) (c10 : PySem.W.codeIn K cd10 "Taking.is_set" = true) (k10 : PySem.W.keepIn K (.ref f10) = true)
    {f11 : Addr} {od11 an11 : Option Addr} {sl11 : Array (Option Value)} {oc11 kV11 dc11 pm11 cd11 ct11 : Value}
    (a11 : PySem.W.findIn K (.ref c_Taking) "top_behind" = some (some (.ref f11))) (i11 : PySem.W.isFn K (.ref f11) = true)
    (l11 : K.lookup f11 = some ⟨oc11, od11, .func (PySem.W.fnOf "top_behind" "Taking.top_behind" (defArgs s_Taking_top_behind) (defBody s_Taking_top_behind) (defScope s_Taking_top_behind) .none kV11 dc11 pm11 an11 cd11 ct11), sl11⟩) (c11 : PySem.W.codeIn K cd11 "Taking.top_behind" = true) (k11 : PySem.W.keepIn K (.ref f11) = true)
    {f12 : Addr} {od12 an12 : Option Addr} {sl12 : Array (Option Value)} {oc12 kV12 dc12 pm12 cd12 ct12 : Value}
    (a12 : PySem.W.nsIn K mainGlobals "lots" = some (some (.ref f12)))
    (l12 : K.lookup f12 = some ⟨oc12, od12, .func (PySem.W.fnOf "lots" "lots" (defArgs s_lots) (defBody s_lots) (defScope s_lots) .none kV12 dc12 pm12 an12 cd12 ct12), sl12⟩) (c12 : PySem.W.codeIn K cd12 "lots" = true) (k12 : PySem.W.keepIn K (.ref f12) = true)
    {f13 : Addr} {od13 an13 : Option Addr} {sl13 : Array (Option Value)} {oc13 kV13 dc13 pm13 cd13 ct13 : Value}
    (a13 : PySem.W.findIn K (.ref c_Taking) "begun_with" = some (some (.ref f13))) (i13 : PySem.W.isFn K (.ref f13) = true)
    (l13 : K.lookup f13 = some ⟨oc13, od13, .func (PySem.W.fnOf "begun_with" "Taking.begun_with" (defArgs s_Taking_begun_with) (defBody s_Taking_begun_with) (defScope s_Taking_begun_with) .none kV13 dc13 pm13 an13 cd13 ct13), sl13⟩) (c13 : PySem.W.codeIn K cd13 "Taking.begun_with" = true) (k13 : PySem.W.keepIn K (.ref f13) = true)
    {f14 : Addr} {od14 an14 : Option Addr} {sl14 : Array (Option Value)} {oc14 kV14 dc14 pm14 cd14 ct14 : Value}
    (a14 : PySem.W.nsIn K mainGlobals "number_of_set" = some (some (.ref f14)))
    (l14 : K.lookup f14 = some ⟨oc14, od14, .func (PySem.W.fnOf "number_of_set" "number_of_set" (defArgs s_number_of_set) (defBody s_number_of_set) (defScope s_number_of_set) .none kV14 dc14 pm14 an14 cd14 ct14), sl14⟩) (c14 : PySem.W.codeIn K cd14 "number_of_set" = true) (k14 : PySem.W.keepIn K (.ref f14) = true)
    {f15 : Addr} {od15 an15 : Option Addr} {sl15 : Array (Option Value)} {oc15 kV15 dc15 pm15 cd15 ct15 : Value}
    (a15 : PySem.W.nsIn K mainGlobals "_law_pick" = some (some (.ref f15)))
    (l15 : K.lookup f15 = some ⟨oc15, od15, .func (PySem.W.fnOf "_law_pick" "_law_pick" (defArgs s_law_pick) (defBody s_law_pick) (defScope s_law_pick) .none kV15 dc15 pm15 an15 cd15 ct15), sl15⟩) (c15 : PySem.W.codeIn K cd15 "_law_pick" = true) (k15 : PySem.W.keepIn K (.ref f15) = true)
    {f16 : Addr} {od16 an16 : Option Addr} {sl16 : Array (Option Value)} {oc16 kV16 dc16 pm16 cd16 ct16 : Value}
    (a16 : PySem.W.nsIn K mainGlobals "set_count" = some (some (.ref f16)))
    (l16 : K.lookup f16 = some ⟨oc16, od16, .func (PySem.W.fnOf "set_count" "set_count" (defArgs s_set_count) (defBody s_set_count) (defScope s_set_count) .none kV16 dc16 pm16 an16 cd16 ct16), sl16⟩) (c16 : PySem.W.codeIn K cd16 "set_count" = true) (k16 : PySem.W.keepIn K (.ref f16) = true)
    {f17 : Addr} {od17 an17 : Option Addr} {sl17 : Array (Option Value)} {oc17 kV17 dc17 pm17 cd17 ct17 : Value}
    (a17 : PySem.W.nsIn K mainGlobals "set_at" = some (some (.ref f17)))
    (l17 : K.lookup f17 = some ⟨oc17, od17, .func (PySem.W.fnOf "set_at" "set_at" (defArgs s_set_at) (defBody s_set_at) (defScope s_set_at) .none kV17 dc17 pm17 an17 cd17 ct17), sl17⟩) (c17 : PySem.W.codeIn K cd17 "set_at" = true) (k17 : PySem.W.keepIn K (.ref f17) = true)
    {f18 : Addr} {od18 an18 : Option Addr} {sl18 : Array (Option Value)} {oc18 kV18 dc18 pm18 cd18 ct18 : Value}
    (a18 : PySem.W.nsIn K mainGlobals "_law_is_whole" = some (some (.ref f18)))
    (l18 : K.lookup f18 = some ⟨oc18, od18, .func (PySem.W.fnOf "_law_is_whole" "_law_is_whole" (defArgs s_law_is_whole) (defBody s_law_is_whole) (defScope s_law_is_whole) .none kV18 dc18 pm18 an18 cd18 ct18), sl18⟩) (c18 : PySem.W.codeIn K cd18 "_law_is_whole" = true) (k18 : PySem.W.keepIn K (.ref f18) = true)
    {f19 : Addr} {od19 an19 : Option Addr} {sl19 : Array (Option Value)} {oc19 kV19 dc19 pm19 cd19 ct19 : Value}
    (a19 : PySem.W.nsIn K mainGlobals "_law_set_wrong" = some (some (.ref f19)))
    (l19 : K.lookup f19 = some ⟨oc19, od19, .func (PySem.W.fnOf "_law_set_wrong" "_law_set_wrong" (defArgs s_law_set_wrong) (defBody s_law_set_wrong) (defScope s_law_set_wrong) .none kV19 dc19 pm19 an19 cd19 ct19), sl19⟩) (c19 : PySem.W.codeIn K cd19 "_law_set_wrong" = true) (k19 : PySem.W.keepIn K (.ref f19) = true)
    {f20 : Addr} {od20 an20 : Option Addr} {sl20 : Array (Option Value)} {oc20 kV20 dc20 pm20 cd20 ct20 : Value}
    (a20 : PySem.W.nsIn K mainGlobals "_law_halves" = some (some (.ref f20)))
    (l20 : K.lookup f20 = some ⟨oc20, od20, .func (PySem.W.fnOf "_law_halves" "_law_halves" (defArgs s_law_halves) (defBody s_law_halves) (defScope s_law_halves) .none kV20 dc20 pm20 an20 cd20 ct20), sl20⟩) (c20 : PySem.W.codeIn K cd20 "_law_halves" = true) (k20 : PySem.W.keepIn K (.ref f20) = true)
    {f21 : Addr} {od21 an21 : Option Addr} {sl21 : Array (Option Value)} {oc21 kV21 dc21 pm21 cd21 ct21 : Value}
    (a21 : PySem.W.nsIn K mainGlobals "_law_after" = some (some (.ref f21)))
    (l21 : K.lookup f21 = some ⟨oc21, od21, .func (PySem.W.fnOf "_law_after" "_law_after" (defArgs s_law_after) (defBody s_law_after) (defScope s_law_after) .none kV21 dc21 pm21 an21 cd21 ct21), sl21⟩) (c21 : PySem.W.codeIn K cd21 "_law_after" = true) (k21 : PySem.W.keepIn K (.ref f21) = true)
    {f22 : Addr} {od22 an22 : Option Addr} {sl22 : Array (Option Value)} {oc22 kV22 dc22 pm22 cd22 ct22 : Value}
    (a22 : PySem.W.nsIn K mainGlobals "_law_ahead" = some (some (.ref f22)))
    (l22 : K.lookup f22 = some ⟨oc22, od22, .func (PySem.W.fnOf "_law_ahead" "_law_ahead" (defArgs s_law_ahead) (defBody s_law_ahead) (defScope s_law_ahead) .none kV22 dc22 pm22 an22 cd22 ct22), sl22⟩) (c22 : PySem.W.codeIn K cd22 "_law_ahead" = true) (k22 : PySem.W.keepIn K (.ref f22) = true)
    {f23 : Addr} {od23 an23 : Option Addr} {sl23 : Array (Option Value)} {oc23 kV23 dc23 pm23 cd23 ct23 : Value}
    (a23 : PySem.W.nsIn K mainGlobals "law" = some (some (.ref f23)))
    (l23 : K.lookup f23 = some ⟨oc23, od23, .func (PySem.W.fnOf "law" "law" (defArgs s_law) (defBody s_law) (defScope s_law) .none kV23 dc23 pm23 an23 cd23 ct23), sl23⟩) (c23 : PySem.W.codeIn K cd23 "law" = true) (k23 : PySem.W.keepIn K (.ref f23) = true)
    (z_all : PySem.W.nsIn K mainGlobals "all" = some none)
    (z_bool : PySem.W.nsIn K mainGlobals "bool" = some none)
    (z_enumerate : PySem.W.nsIn K mainGlobals "enumerate" = some none)
    (z_int : PySem.W.nsIn K mainGlobals "int" = some none)
    (z_isinstance : PySem.W.nsIn K mainGlobals "isinstance" = some none)
    (z_len : PySem.W.nsIn K mainGlobals "len" = some none)
    (z_range : PySem.W.nsIn K mainGlobals "range" = some none)
    (z_repr : PySem.W.nsIn K mainGlobals "repr" = some none)
    (z_set : PySem.W.nsIn K mainGlobals "set" = some none)
    (z_sorted : PySem.W.nsIn K mainGlobals "sorted" = some none)
    (z_sum : PySem.W.nsIn K mainGlobals "sum" = some none)
    (z_tuple : PySem.W.nsIn K mainGlobals "tuple" = some none)
    (z_zip : PySem.W.nsIn K mainGlobals "zip" = some none)
    : ∃ (fd : FuncData) (cx : Str → Addr), (∀ (s : Shared) (v : Value), BindsTo s fd ⟨[v], []⟩ [("script", v)]) ∧ ∀ base : Heap, K.In base → base.Ns mainGlobals mg → (∀ q ∈ ([] : List (Addr × Addr)), LamX.TabB base mg q.1 q.2) → FnG l.prog w K mg base CX0 5 fa fd ["script"] (spD K ⟨[], cx⟩ 1 G_law) := by
  have e := hfa.symm.trans (PySem.W.mg_of X G a23)
  cases e
  exact ⟨_, fun _ => 0, fun s v => .of_eq rfl, fun base _ _ _ => ok_law (T := ⟨[], fun _ => 0⟩) (w := w) (E := { a_law_jar := f0, d_law_jar := _, u_law_jar := fun_mk (st := s_law_jar) l0 c0 k0, m_law_jar := PySem.W.mg_of X G a0, a_law_draw := f1, d_law_draw := _, u_law_draw := fun_mk (st := s_law_draw) l1 c1 k1, m_law_draw := PySem.W.mg_of X G a1, a_law_powers := f2, d_law_powers := _, u_law_powers := fun_mk (st := s_law_powers) l2 c2 k2, m_law_powers := PySem.W.mg_of X G a2, a_law_far_set := f3, d_law_far_set := _, u_law_far_set := fun_mk (st := s_law_far_set) l3 c3 k3, m_law_far_set := PySem.W.mg_of X G a3, a_Taking_take := f4, d_Taking_take := _, u_Taking_take := fun_mk (st := s_Taking_take) l4 c4 k4, a_is_integer := f5, d_is_integer := _, u_is_integer := fun_mk (st := s_is_integer) l5 c5 k5, m_is_integer := PySem.W.mg_of X G a5, a_is_rising := f6, d_is_rising := _, u_is_rising := fun_mk (st := s_is_rising) l6 c6 k6, m_is_rising := PySem.W.mg_of X G a6, a_set_error := f7, d_set_error := _, u_set_error := fun_mk (st := s_set_error) l7 c7 k7, m_set_error := PySem.W.mg_of X G a7, a_doublings := f8, d_doublings := _, u_doublings := fun_mk (st := s_doublings) l8 c8 k8, m_doublings := PySem.W.mg_of X G a8, a_Taking_init := f9, d_Taking_init := _, u_Taking_init := fun_mk (st := s_Taking_init) l9 c9 k9, a_Taking_is_set := f10, d_Taking_is_set := _, u_Taking_is_set := fun_mk (st := s_Taking_is_set) l10 c10 k10, a_Taking_top_behind := f11, d_Taking_top_behind := _, u_Taking_top_behind := fun_mk (st := s_Taking_top_behind) l11 c11 k11, a_lots := f12, d_lots := _, u_lots := fun_mk (st := s_lots) l12 c12 k12, m_lots := PySem.W.mg_of X G a12, a_Taking_begun_with := f13, d_Taking_begun_with := _, u_Taking_begun_with := fun_mk (st := s_Taking_begun_with) l13 c13 k13, a_number_of_set := f14, d_number_of_set := _, u_number_of_set := fun_mk (st := s_number_of_set) l14 c14 k14, m_number_of_set := PySem.W.mg_of X G a14, a_law_pick := f15, d_law_pick := _, u_law_pick := fun_mk (st := s_law_pick) l15 c15 k15, m_law_pick := PySem.W.mg_of X G a15, a_set_count := f16, d_set_count := _, u_set_count := fun_mk (st := s_set_count) l16 c16 k16, m_set_count := PySem.W.mg_of X G a16, a_set_at := f17, d_set_at := _, u_set_at := fun_mk (st := s_set_at) l17 c17 k17, m_set_at := PySem.W.mg_of X G a17, a_law_is_whole := f18, d_law_is_whole := _, u_law_is_whole := fun_mk (st := s_law_is_whole) l18 c18 k18, m_law_is_whole := PySem.W.mg_of X G a18, a_law_set_wrong := f19, d_law_set_wrong := _, u_law_set_wrong := fun_mk (st := s_law_set_wrong) l19 c19 k19, m_law_set_wrong := PySem.W.mg_of X G a19, a_law_halves := f20, d_law_halves := _, u_law_halves := fun_mk (st := s_law_halves) l20 c20 k20, m_law_halves := PySem.W.mg_of X G a20, a_law_after := f21, d_law_after := _, u_law_after := fun_mk (st := s_law_after) l21 c21 k21, m_law_after := PySem.W.mg_of X G a21, a_law_ahead := f22, d_law_ahead := _, u_law_ahead := fun_mk (st := s_law_ahead) l22 c22 k22, m_law_ahead := PySem.W.mg_of X G a22, a_law := fa, d_law := _, u_law := fun_mk (st := s_law) l23 c23 k23, m_law := PySem.W.mg_of X G a23, cl_Taking := c_Taking, cc_Taking := ⟨pg_Taking, hd_Taking, po_Taking, sa_Taking⟩, mc_Taking := PySem.W.mg_of X G aC_Taking, na_Taking_many := na_Taking_many, na_Taking_powers := na_Taking_powers, na_Taking_size := na_Taking_size, na_Taking_taken := na_Taking_taken, na_Taking_total := na_Taking_total, me_Taking_begun_with := ⟨a13, i13, k13⟩, me_Taking_is_set := ⟨a10, i10, k10⟩, me_Taking_take := ⟨a4, i4, k4⟩, me_Taking_top_behind := ⟨a11, i11, k11⟩, mk_Taking := ⟨mk_Taking, a9, i9, kc_Taking⟩, z_all := PySem.W.mg_none_of X G z_all, z_bool := PySem.W.mg_none_of X G z_bool, z_enumerate := PySem.W.mg_none_of X G z_enumerate, z_int := PySem.W.mg_none_of X G z_int, z_isinstance := PySem.W.mg_none_of X G z_isinstance, z_len := PySem.W.mg_none_of X G z_len, z_range := PySem.W.mg_none_of X G z_range, z_repr := PySem.W.mg_none_of X G z_repr, z_set := PySem.W.mg_none_of X G z_set, z_sorted := PySem.W.mg_none_of X G z_sorted, z_sum := PySem.W.mg_none_of X G z_sum, z_tuple := PySem.W.mg_none_of X G z_tuple, z_zip := PySem.W.mg_none_of X G z_zip })⟩
end Law
open PySem PySem.W PyProof.Rows
set_option maxHeartbeats 0 in
theorem PySem.Challenge.cw_oddlines_k27_whole_odd_sets_of_many_peop_holds : PySem.Challenge.rw_oddlines_k27_whole_odd_sets_of_many_peop.Holds := by
  w_on; o_law; k_head; (case hw => w_witness2)
  k_fill
  refine Dt.walk_ofG (l := PySem.Challenge.rw_oddlines_k27_whole_odd_sets_of_many_peop) (n := 63) (k := 5) (x := "script") (G := fun _ => Law.G_law) rfl (by decide) rfl ⟨rfl, by decide, by decide⟩ (fun w h Y => PySem.W.kIn_of Y) (tbs := []) (TL := []) (fun _ _ _ _ q h => nomatch h) (fun q h => nomatch h) ?F (fun _ ns hl => Law.law_true ns hl)
  case F =>
    intro w mg fa h KX G hmg
    refine' Law.all_mk KX G hmg ?aC_Taking ?pg_Taking ?hd_Taking ?po_Taking ?sa_Taking ?mk_Taking ?kc_Taking ?na_Taking_many ?na_Taking_powers ?na_Taking_size ?na_Taking_taken ?na_Taking_total ?a0 ?l0 ?c0 ?k0 ?a1 ?l1 ?c1 ?k1 ?a2 ?l2 ?c2 ?k2 ?a3 ?l3 ?c3 ?k3 ?a4 ?i4 ?l4 ?c4 ?k4 ?a5 ?l5 ?c5 ?k5 ?a6 ?l6 ?c6 ?k6 ?a7 ?l7 ?c7 ?k7 ?a8 ?l8 ?c8 ?k8 ?a9 ?i9 ?l9 ?c9 ?k9 ?a10 ?i10 ?l10 ?c10 ?k10 ?a11 ?i11 ?l11 ?c11 ?k11 ?a12 ?l12 ?c12 ?k12 ?a13 ?i13 ?l13 ?c13 ?k13 ?a14 ?l14 ?c14 ?k14 ?a15 ?l15 ?c15 ?k15 ?a16 ?l16 ?c16 ?k16 ?a17 ?l17 ?c17 ?k17 ?a18 ?l18 ?c18 ?k18 ?a19 ?l19 ?c19 ?k19 ?a20 ?l20 ?c20 ?k20 ?a21 ?l21 ?c21 ?k21 ?a22 ?l22 ?c22 ?k22 ?a23 ?l23 ?c23 ?k23 ?z_all ?z_bool ?z_enumerate ?z_int ?z_isinstance ?z_len ?z_range ?z_repr ?z_set ?z_sorted ?z_sum ?z_tuple ?z_zip
    (case aC_Taking => k_is); (case pg_Taking => k_is); (case hd_Taking => k_is); (case po_Taking => k_is); (case sa_Taking => k_is); (case mk_Taking => k_is); (case kc_Taking => k_is); (case na_Taking_many => k_is); (case na_Taking_powers => k_is); (case na_Taking_size => k_is); (case na_Taking_taken => k_is); (case na_Taking_total => k_is); (case a0 => k_is); (case l0 => k_is); (case c0 => k_is); (case k0 => k_is); (case a1 => k_is); (case l1 => k_is); (case c1 => k_is); (case k1 => k_is); (case a2 => k_is); (case l2 => k_is); (case c2 => k_is); (case k2 => k_is); (case a3 => k_is); (case l3 => k_is); (case c3 => k_is); (case k3 => k_is); (case a4 => k_is); (case i4 => k_is); (case l4 => k_is); (case c4 => k_is); (case k4 => k_is); (case a5 => k_is); (case l5 => k_is); (case c5 => k_is); (case k5 => k_is); (case a6 => k_is); (case l6 => k_is); (case c6 => k_is); (case k6 => k_is); (case a7 => k_is); (case l7 => k_is); (case c7 => k_is); (case k7 => k_is); (case a8 => k_is); (case l8 => k_is); (case c8 => k_is); (case k8 => k_is); (case a9 => k_is); (case i9 => k_is); (case l9 => k_is); (case c9 => k_is); (case k9 => k_is); (case a10 => k_is); (case i10 => k_is); (case l10 => k_is); (case c10 => k_is); (case k10 => k_is); (case a11 => k_is); (case i11 => k_is); (case l11 => k_is); (case c11 => k_is); (case k11 => k_is); (case a12 => k_is); (case l12 => k_is); (case c12 => k_is); (case k12 => k_is); (case a13 => k_is); (case i13 => k_is); (case l13 => k_is); (case c13 => k_is); (case k13 => k_is); (case a14 => k_is); (case l14 => k_is); (case c14 => k_is); (case k14 => k_is); (case a15 => k_is); (case l15 => k_is); (case c15 => k_is); (case k15 => k_is); (case a16 => k_is); (case l16 => k_is); (case c16 => k_is); (case k16 => k_is); (case a17 => k_is); (case l17 => k_is); (case c17 => k_is); (case k17 => k_is); (case a18 => k_is); (case l18 => k_is); (case c18 => k_is); (case k18 => k_is); (case a19 => k_is); (case l19 => k_is); (case c19 => k_is); (case k19 => k_is); (case a20 => k_is); (case l20 => k_is); (case c20 => k_is); (case k20 => k_is); (case a21 => k_is); (case l21 => k_is); (case c21 => k_is); (case k21 => k_is); (case a22 => k_is); (case l22 => k_is); (case c22 => k_is); (case k22 => k_is); (case a23 => k_is); (case l23 => k_is); (case c23 => k_is); (case k23 => k_is); (case z_all => k_is); (case z_bool => k_is); (case z_enumerate => k_is); (case z_int => k_is); (case z_isinstance => k_is); (case z_len => k_is); (case z_range => k_is); (case z_repr => k_is); (case z_set => k_is); (case z_sorted => k_is); (case z_sum => k_is); (case z_tuple => k_is); (case z_zip => k_is)

